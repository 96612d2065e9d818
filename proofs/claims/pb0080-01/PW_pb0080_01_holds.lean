import PyProof.Rows.All
import Wide.All
import OpenK.KWalk
import KE.KRevSl
import KE.KItem
import OpenK.KMore
import PyProof.ExcAttrAll.Exception
import PyProof.InstStoreFacts
import PyProof.ExcBaseAll.Exception
import Open.FastT9
import Lean
import PySem.Challenge.RW_pb0080_01
set_option Elab.async false
set_option maxRecDepth 100000
set_option linter.all false
set_option genInjectivity false
set_option genSizeOf false
set_option genSizeOfSpec false
set_option tactic.hygienic false
set_option bootstrap.genMatcherCode false
local macro_rules
  | `(tactic| cases $t:elimTarget with $alts:inductionAlt*) => do
    if t.raw[1].isOfKind ``Lean.Parser.Term.paren then Lean.Macro.throwUnsupported
    let p ← `(($(⟨t.raw[1]⟩)))
    let u : Lean.TSyntax ``Lean.Parser.Tactic.elimTarget := ⟨t.raw.setArg 1 p⟩
    `(tactic| first | (induction $t:elimTarget with $alts:inductionAlt*) | (cases $u:elimTarget with $alts:inductionAlt*))
local macro_rules
  | `(tactic| cases $h:ident) => `(tactic| first | (injection $h:ident; done) | (induction $h:ident) | cases ($h))
local macro_rules
  | `(nomatch $h:ident) => `(by first | (injection $h:ident; done) | exact (nomatch ($h)))
namespace Bm
theorem bc0 {p : Prop} (h : (p → False) → False) : p := Classical.byContradiction h
end Bm
local macro_rules
  | `(tactic| obtain $p:rcasesPatMed := $e:term) => do
    if (((p.raw.reprint.getD "").splitOn ",").length < 3) then `(tactic| rcases $e:term with $p) else
      let n := Lean.mkIdent `nG
      `(tactic| (refine Bm.bc0 fun $n => ?_; (rcases $e:term with $p) <;> (refine $n ?_; clear $n)))
namespace Bm
open PySem
inductive AV where
 | undef | none | bool (b:Bool) | int (i:Int) | ref (a:Nat)
inductive AO where
 | list (xs:List AV)
 | ro (xs:List AV)
 | tup (xs:List AV)
 | obj (C:Nat) (fs:List (String×AV))
 | deck (fs:List (String×AV))
 | idict (d:List (Int×AV))
 | exc (nodes:AV)
noncomputable abbrev AHeap:=Nat→Option AO
noncomputable def upd (H:AHeap) (a:Nat) (o:AO):AHeap:=fun b=>if b=a then some o else H b
inductive Fl where
 | next | brk | cont | ret (v:AV)
noncomputable def lget:List AV→Nat→AV
 | [],_=>.undef
 | v::_,0=>v
 | _::r,n+1=>lget r n
noncomputable def lset:List AV→Nat→AV→List AV
 | [],_,_=>[]
 | _::r,0,w=>w::r
 | v::r,n+1,w=>v::lset r n w
noncomputable def fget:List (String×AV)→String→Option AV
 | [],_=>none
 | (k,v)::r,n=>if k=n then some v else fget r n
noncomputable def fset:List (String×AV)→String→AV→List (String×AV)
 | [],n,w=>[(n,w)]
 | (k,v)::r,n,w=>if k=n then(k,w)::r else(k,v)::fset r n w
noncomputable def dget:List (Int×AV)→Int→Option AV
 | [],_=>none
 | (k,v)::r,n=>if k=n then some v else dget r n
noncomputable def dset:List (Int×AV)→Int→AV→List (Int×AV)
 | [],n,w=>[(n,w)]
 | (k,v)::r,n,w=>if k=n then(k,w)::r else(k,v)::dset r n w
inductive BOp where
 | add | sub | mul | fdiv | mod | band | bor | shl | shr
 deriving DecidableEq
inductive COp where
 | eq | ne | lt | le | gt | ge | is | isnot | inn | notin
 deriving DecidableEq
set_option genCtorIdx false in
mutual
inductive IE where
 | c (v:AV)
 | loc (i:Nat)
 | bin (op:BOp) (a b:IE)
 | neg (a:IE)
 | not (a:IE)
 | cmp (op:COp) (a b:IE)
 | cmp2 (op1 op2:COp) (a b d:IE)
 | and (a b:IE)
 | or (a b:IE)
 | ife (t a b:IE)
 | list (es:IEs)
 | tup (es:IEs)
 | deck (k1 k2:String) (a b:IE)
 | dict0
 | attr (e:IE) (n:String)
 | idx (e i:IE)
 | key (e:IE) (k:String)
 | upto (e:IE) (n:Nat)
 | all (e:IE)
 | rev (e:IE)
 | call (f:Nat) (es:IEs)
 | new (C:Nat) (es:IEs)
 | meth (o:IE) (n:String) (es:IEs)
 | len (e:IE)
 | max2 (a b:IE)
 | min2 (a b:IE)
 | maxl (e:IE)
 | abs (e:IE)
 | copy (e:IE)
 | listR (lo hi:IE)
 | comp (elt:IE) (it:IT)
 | compIf (elt:IE) (it:IT) (cond:IE)
inductive IT where
 | over (e:IE)
 | range (lo hi:IE)
inductive IEs where
 | nil
 | cons (e:IE) (es:IEs)
end
set_option genCtorIdx false in
mutual
inductive IS where
 | expr (e:IE)
 | ret (e:IE)
 | retN
 | asg (i:Nat) (e:IE)
 | setA (o:IE) (n:String) (e:IE)
 | setI (o i e:IE)
 | unp (is:List Nat) (e:IE)
 | augL (i:Nat) (op:BOp) (e:IE)
 | augA (o:IE) (n:String) (op:BOp) (e:IE)
 | augK (o:IE) (k:String) (op:BOp) (e:IE)
 | ite (t:IE) (a b:ISs)
 | whil (t:IE) (b:ISs)
 | for_ (i:Nat) (it:IT) (b:ISs)
 | raiseStop (e:IE)
 | tryStop (b:ISs) (bind:Option Nat) (h:ISs)
 | pass
 | brk
 | cont
 | bad
inductive ISs where
 | nil
 | cons (s:IS) (r:ISs)
end
structure Fn where
 names:List String
 np:Nat
 body:ISs
noncomputable def lim:Nat:=1000000
noncomputable def big:Int:=2 ^ 200
inductive Tru (H:AHeap) (Q:Bool→Prop):AV→Prop
 | none (q:Q false):Tru H Q .none
 | bool {b:Bool} (q:Q b):Tru H Q (.bool b)
 | int {i:Int} (q:Q (decide (i≠0))):Tru H Q (.int i)
 | ref {l:Nat} {xs:List AV} (h:H l=some (.list xs)) (q:Q (!xs.isEmpty)):Tru H Q (.ref l)
noncomputable abbrev truthy (v:AV) (H:AHeap) (Q:Bool→Prop):Prop:=Tru H Q v
noncomputable abbrev cnd (b:Bool) (A B:Prop):Prop:=match b with
 | true=>A
 | false=>B
theorem tB {b:Bool} {H:AHeap} {Q:Bool→Prop} (h:Q b):truthy (.bool b) H Q:=.bool h
theorem tB_of {b:Bool} {H:AHeap} {Q:Bool→Prop} (h:truthy (.bool b) H Q):Q b:=match h with | .bool q=>q
noncomputable abbrev EQ:=AV→AHeap→Prop
inductive OnL (f:List AV→AO) (H:AHeap) (Q:List AV→Prop):AV→Prop
 | mk {l:Nat} {xs:List AV} (h:H l=some (f xs)) (q:Q xs):OnL f H Q (.ref l)
noncomputable abbrev onL (x:AV) (H:AHeap) (Q:List AV→Prop):Prop:=OnL .list H Q x
noncomputable abbrev onR (x:AV) (H:AHeap) (Q:List AV→Prop):Prop:=OnL .ro H Q x
noncomputable abbrev onT (x:AV) (H:AHeap) (Q:List AV→Prop):Prop:=OnL .tup H Q x
noncomputable def bInt (op:BOp) (a b:Int) (Q:Int→Prop):Prop:=match op with
 | .add=>Q (a+b)
 | .sub=>Q (a - b)
 | .mul=>(-(2 ^ 62) < a∧a < 2 ^ 62)∧Q (a*b)
 | .fdiv=>(0 < b∧b < 1000000000)∧Q (a.fdiv b)
 | .mod=>b≠0∧Q (a.fmod b)
 | .band=>(0≤a∧0≤b)∧Q ((a.toNat &&& b.toNat:Nat):Int)
 | .bor=>(0≤a∧0≤b)∧Q ((a.toNat ||| b.toNat:Nat):Int)
 | .shl=>(-big < a∧a < big∧0≤b∧b≤1000)∧Q (a*2 ^ b.toNat)
 | .shr=>(0≤b)∧Q (a.fdiv (2 ^ b.toNat))
inductive VBin (op:BOp) (H:AHeap) (Q:EQ):AV→AV→Prop
 | int {a b:Int} (q:bInt op a b fun r=>Q (.int r) H):VBin op H Q (.int a) (.int b)
 | add {l m:Nat} {xs ys:List AV} (o:op=.add) (h:H l=some (.list xs)) (h2:H m=some (.list ys)) (z:xs.length+ys.length≤lim) (q:∀ a,H a=none→Q (.ref a) (upd H a (.list (xs++ys)))):VBin op H Q (.ref l) (.ref m)
 | mul {l:Nat} {z:AV} {n:Int} (o:op=.mul) (h:H l=some (.list [z])) (b:0≤n∧n≤1000) (q:∀ a,H a=none→Q (.ref a) (upd H a (.list (List.replicate n.toNat z)))):VBin op H Q (.ref l) (.int n)
noncomputable abbrev vBin (op:BOp) (x y:AV) (H:AHeap) (Q:EQ):Prop:=VBin op H Q x y
noncomputable def isInt:AV→Bool
 | .int _=>true
 | _=>false
noncomputable def isThe (i:Int):AV→Bool
 | .int j=>decide (j=i)
 | _=>false
noncomputable def eqL (f:AV→AV→Option Bool):List AV→List AV→Option Bool
 | [],[]=>some true
 | x::xs,y::ys=>(f x y).bind fun p=>(eqL f xs ys).map fun q=>p&&q
 | _,_=>some false
noncomputable def eqI (x y:AV) (r:Nat→Nat→Option Bool):Option Bool:=match x with
 | .int a=>(match y with | .int b=>some (decide (a=b)) | _=>none)
 | .ref a=>(match y with | .ref b=>r a b | _=>none)
 | _=>none
noncomputable def eqC (H:AHeap) (a b:Nat) (f:List AV→List AV→Option Bool):Option Bool:=match H a with
 | some (.list xs)=>(match H b with | some (.list ys)=>f xs ys | _=>none)
 | some (.tup xs)=>(match H b with | some (.tup ys)=>f xs ys | _=>none)
 | _=>none
noncomputable def eqA:Nat→AHeap→AV→AV→Option Bool
 | 0,_,x,y=>eqI x y fun zz zz=>none
 | n+1,H,x,y=>eqI x y fun a b=>eqC H a b (eqL (eqA n H))
noncomputable def int2 (x y:AV) (Q:Int→Int→Prop):Prop:=match x with
 | .int a=>(match y with | .int b=>Q a b | _=>False)
 | _=>False
noncomputable def isNone (x:AV) (Q:Bool→Prop):Prop:=match x with
 | .undef=>False
 | .none=>Q true
 | _=>Q false
noncomputable def inList (x y:AV) (H:AHeap) (Q:Bool→Prop):Prop:=match x with
 | .int i=>onL y H fun xs=>xs.all isInt=true∧Q (xs.any (isThe i))
 | _=>False
noncomputable def vCmp (op:COp) (x y:AV) (H:AHeap) (Q:Bool→Prop):Prop:=match op with
 | .lt=>int2 x y fun a b=>Q (decide (a < b))
 | .le=>int2 x y fun a b=>Q (decide (a≤b))
 | .gt=>int2 x y fun a b=>Q (decide (a > b))
 | .ge=>int2 x y fun a b=>Q (decide (a≥b))
 | .eq=>(match eqA 4 H x y with | some b=>Q b | none=>False)
 | .ne=>(match eqA 4 H x y with | some b=>Q (!b) | none=>False)
 | .is=>(match y with | .none=>isNone x Q | _=>False)
 | .isnot=>(match y with | .none=>isNone x (fun b=>Q (!b)) | _=>False)
 | .inn=>inList x y H Q
 | .notin=>inList x y H fun b=>Q (!b)
noncomputable def place (i:Int) (n:Nat):Option Nat :=
 if 0≤i then(if i < n then some i.toNat else none) else(if -(n:Int)≤i then some (i+n).toNat else none)
inductive VIdx (H:AHeap) (Q:AV→Prop):AV→AV→Prop
 | list {l:Nat} {i:Int} {xs:List AV} {k:Nat} (h:H l=some (.list xs)) (p:place i xs.length=some k) (q:Q (lget xs k)):VIdx H Q (.ref l) (.int i)
 | tup {l:Nat} {i:Int} {xs:List AV} {k:Nat} (h:H l=some (.tup xs)) (p:place i xs.length=some k) (q:Q (lget xs k)):VIdx H Q (.ref l) (.int i)
noncomputable abbrev vIdx (x y:AV) (H:AHeap) (Q:AV→Prop):Prop:=VIdx H Q x y
inductive VSetI (v:AV) (H:AHeap) (Q:AHeap→Prop):AV→AV→Prop
 | list {l:Nat} {i:Int} {xs:List AV} (h:H l=some (.list xs)) (b:0≤i∧i < xs.length) (q:Q (upd H l (.list (lset xs i.toNat v)))):VSetI v H Q (.ref l) (.int i)
 | dict {l:Nat} {i:Int} {d:List (Int×AV)} (h:H l=some (.idict d)) (z:d.length < lim) (e:isInt v=true) (q:Q (upd H l (.idict (dset d i v)))):VSetI v H Q (.ref l) (.int i)
noncomputable abbrev vSetI (x y v:AV) (H:AHeap) (Q:AHeap→Prop):Prop:=VSetI v H Q x y
structure Tab where
 att:Nat→String→Bool
 mth:Nat→String→Option Nat
 ini:Nat→Option Nat
 fn:Nat→Option Fn
noncomputable abbrev CallSem:=Nat→List AV→AHeap→EQ→EQ→Prop
noncomputable def okv:AV→Prop
 | .undef=>False
 | _=>True
inductive VAttr (T:Tab) (H:AHeap) (Q:AV→Prop):AV→String→Prop
 | obj {a C:Nat} {fs:List (String×AV)} {n:String} {v:AV} (h:H a=some (.obj C fs)) (c:T.att C n=true) (f:fget fs n=some v) (o:okv v) (q:Q v):VAttr T H Q (.ref a) n
 | exc {a:Nat} {v:AV} (h:H a=some (.exc v)) (q:Q v):VAttr T H Q (.ref a) "nodes"
noncomputable abbrev vAttr (T:Tab) (x:AV) (n:String) (H:AHeap) (Q:AV→Prop):Prop:=VAttr T H Q x n
inductive VSetA (T:Tab) (n:String) (v:AV) (H:AHeap) (Q:AHeap→Prop):AV→Prop
 | mk {a C:Nat} {fs:List (String×AV)} (h:H a=some (.obj C fs)) (c:T.att C n=true) (z:fs.length < 100) (q:Q (upd H a (.obj C (fset fs n v)))):VSetA T n v H Q (.ref a)
noncomputable abbrev vSetA (T:Tab) (x:AV) (n:String) (v:AV) (H:AHeap) (Q:AHeap→Prop):Prop:=VSetA T n v H Q x
inductive VKey (k:String) (H:AHeap) (Q:AV→Prop):AV→Prop
 | mk {a:Nat} {fs:List (String×AV)} {v:AV} (h:H a=some (.deck fs)) (e:fget fs k=some v) (q:Q v):VKey k H Q (.ref a)
noncomputable abbrev vKey (x:AV) (k:String) (H:AHeap) (Q:AV→Prop):Prop:=VKey k H Q x
inductive VSetK (k:String) (v:AV) (H:AHeap) (Q:AHeap→Prop):AV→Prop
 | mk {a:Nat} {fs:List (String×AV)} {w:AV} (h:H a=some (.deck fs)) (e:fget fs k=some w) (q:Q (upd H a (.deck (fset fs k v)))):VSetK k v H Q (.ref a)
noncomputable abbrev vSetK (x:AV) (k:String) (v:AV) (H:AHeap) (Q:AHeap→Prop):Prop:=VSetK k v H Q x
noncomputable def listM (n:String):Bool:=decide (n = "append")||decide (n = "pop")||decide (n = "remove")
inductive VListM (a:Nat) (H:AHeap) (Q:EQ):String→List AV→Prop
 | pop {xs:List AV} (h:H a=some (.list xs)) (e:xs≠[]) (q:Q (lget xs (xs.length - 1)) (upd H a (.list xs.dropLast))):VListM a H Q "pop" []
 | app {xs:List AV} {v:AV} (h:H a=some (.list xs)) (z:xs.length < lim) (q:Q .none (upd H a (.list (xs++[v])))):VListM a H Q "append" [v]
 | popi {xs:List AV} {i:Int} {k:Nat} (h:H a=some (.list xs)) (p:place i xs.length=some k) (q:Q (lget xs k) (upd H a (.list (xs.eraseIdx k)))):VListM a H Q "pop" [.int i]
 | rem {xs:List AV} {i:Int} (h:H a=some (.list xs)) (h1:xs.all isInt=true) (h2:xs.any (isThe i)=true) (q:Q .none (upd H a (.list (xs.eraseP (isThe i))))):VListM a H Q "remove" [.int i]
noncomputable abbrev vListM (a:Nat) (n:String) (vs:List AV) (H:AHeap) (Q:EQ):Prop:=VListM a H Q n vs
inductive VDictM (a:Nat) (H:AHeap) (Q:EQ):List AV→Prop
 | mk {d:List (Int×AV)} {i v:Int} (h:H a=some (.idict d)) (q:Q ((dget d i).getD (.int v)) H):VDictM a H Q [.int i,.int v]
noncomputable abbrev vDictM (a:Nat) (vs:List AV) (H:AHeap) (Q:EQ):Prop:=VDictM a H Q vs
inductive VMeth (T:Tab) (call:CallSem) (n:String) (args:AHeap→(List AV→AHeap→Prop)→Prop) (H:AHeap) (Q X:EQ):AV→Prop
 | obj {a C f:Nat} {fs:List (String×AV)} (h:H a=some (.obj C fs)) (e:fget fs n=none) (m:T.mth C n=some f) (q:args H fun vs H=>call f (.ref a::vs) H Q X):VMeth T call n args H Q X (.ref a)
 | list {a:Nat} {xs:List AV} (h:H a=some (.list xs)) (e:listM n=true) (q:args H fun vs H=>vListM a n vs H Q):VMeth T call n args H Q X (.ref a)
 | dict {a:Nat} {d:List (Int×AV)} (h:H a=some (.idict d)) (e:n = "get") (q:args H fun vs H=>vDictM a vs H Q):VMeth T call n args H Q X (.ref a)
noncomputable abbrev vMeth (T:Tab) (call:CallSem) (x:AV) (n:String) (args:AHeap→(List AV→AHeap→Prop)→Prop) (H:AHeap) (Q X:EQ):Prop:=VMeth T call n args H Q X x
inductive Src where
 | lst (l:Nat) (xs:List AV)
 | tup (l:Nat) (xs:List AV)
 | rng
noncomputable def Src.ok:Src→AHeap→Prop
 | .lst l xs,H=>H l=some (.list xs)
 | .tup l xs,H=>H l=some (.tup xs)
 | .rng,_=>True
noncomputable def iRng (lo hi:Int):List AV:=(List.range (hi - lo).toNat).map fun(k:Nat)=>AV.int (lo+(k:Int))
inductive VOver (H:AHeap) (K:Src→List AV→Prop):AV→Prop
 | list {l:Nat} {xs:List AV} (h:H l=some (.list xs)) (q:K (.lst l xs) xs):VOver H K (.ref l)
 | tup {l:Nat} {xs:List AV} (h:H l=some (.tup xs)) (q:K (.tup l xs) xs):VOver H K (.ref l)
noncomputable abbrev vOver (v:AV) (H:AHeap) (K:Src→List AV→Prop):Prop:=VOver H K v
inductive VRange (K:Src→List AV→Prop):AV→AV→Prop
 | mk {lo hi:Int} (b:-big < lo∧lo < 2 ^ 40∧-(2 ^ 40) < lo∧-(2 ^ 40) < hi∧hi < 2 ^ 40∧hi - lo≤lim) (q:K .rng (iRng lo hi)):VRange K (.int lo) (.int hi)
noncomputable abbrev vRange (x y:AV) (K:Src→List AV→Prop):Prop:=VRange K x y
noncomputable def compL (src:Src) (elt:AV→AHeap→EQ→Prop):List AV→List AV→AHeap→(List AV→AHeap→Prop)→Prop
 | [],acc,H,K=>K acc H
 | x::xs,acc,H,K=>elt x H fun w H'=>src.ok H'∧compL src elt xs (acc++[w]) H' K
noncomputable def compIfL (src:Src) (cond:AV→AHeap→(Bool→AHeap→Prop)→Prop) (elt:AV→AHeap→EQ→Prop):List AV→List AV→AHeap→(List AV→AHeap→Prop)→Prop
 | [],acc,H,K=>K acc H
 | x::xs,acc,H,K=>cond x H fun b H₁=>cnd b (elt x H₁ fun w H'=>src.ok H'∧compIfL src cond elt xs (acc++[w]) H' K)
   (src.ok H₁∧compIfL src cond elt xs acc H₁ K)
noncomputable abbrev SQ:=Fl→List AV→AHeap→Prop
noncomputable abbrev SX:=AV→List AV→AHeap→Prop
noncomputable def forL (src:Src) (i:Nat) (body:List AV→AHeap→SQ→Prop):List AV→List AV→AHeap→SQ→Prop
 | [],ρ,H,Q=>Q .next ρ H
 | x::xs,ρ,H,Q=>body (lset ρ i x) H fun fl ρ' H'=>match fl with
  | .next | .cont=>src.ok H'∧forL src i body xs ρ' H' Q
  | .brk=>Q .next ρ' H'
  | .ret v=>Q (.ret v) ρ' H'
noncomputable def whileL (test:List AV→AHeap→(Bool→AHeap→Prop)→Prop) (body:List AV→AHeap→SQ→Prop):Nat→List AV→AHeap→SQ→Prop
 | 0,_,_,_=>False
 | k+1,ρ,H,Q=>test ρ H fun b H₁=>cnd b (body ρ H₁ fun fl ρ' H'=>match fl with
   | .next | .cont=>whileL test body k ρ' H' Q
   | .brk=>Q .next ρ' H'
   | .ret v=>Q (.ret v) ρ' H') (Q .next ρ H₁)
noncomputable abbrev defd (v:AV) (P:AV→Prop):Prop:=match v with
 | .undef=>False
 | v=>P v
theorem defd_iff {v:AV} {P:AV→Prop}:defd v P↔v≠.undef∧P v:=by
 cases v <;> first | exact⟨fun h=>h.elim,fun h=>absurd rfl h.1⟩ | exact⟨fun h=>⟨(fun z=>nomatch z),h⟩,fun h=>h.2⟩
noncomputable abbrev isI (v:AV) (F:Int→Prop):Prop:=match v with
 | .int a=>F a
 | _=>False
theorem isI_of {v:AV} {F:Int→Prop} (h:isI v F):∃ a,v=.int a∧F a:=by
 cases v <;> first | exact h.elim | exact⟨_,rfl,h⟩
noncomputable abbrev newC (T:Tab) (call:CallSem) (C:Nat) (vs:List AV) (H:AHeap) (Q X:EQ):Prop:=match T.ini C with
 | some f=>∀ a,H a=none→call f (.ref a::vs) (upd H a (.obj C [])) (fun v H'=>(match v with | .none=>Q (.ref a) H' | _=>False)) X
 | none=>False
section
variable (T:Tab) (hd:Bool) (call:CallSem)
mutual
noncomputable def vE:IE→List AV→AHeap→EQ→EQ→Prop
 | .c v,_,H,Q,_=>Q v H
 | .loc i,ρ,H,Q,_=>defd (lget ρ i) fun v=>Q v H
 | .bin op a b,ρ,H,Q,X=>vE a ρ H (fun x H=>vE b ρ H (fun y H=>vBin op x y H Q) X) X
 | .neg a,ρ,H,Q,X=>vE a ρ H (fun x H=>isI x fun i=>Q (.int (-i)) H) X
 | .not a,ρ,H,Q,X=>vE a ρ H (fun x H=>truthy x H fun b=>Q (.bool (!b)) H) X
 | .cmp op a b,ρ,H,Q,X=>vE a ρ H (fun x H=>vE b ρ H (fun y H=>vCmp op x y H fun r=>Q (.bool r) H) X) X
 | .cmp2 op1 op2 a b d,ρ,H,Q,X=>vE a ρ H (fun x H=>vE b ρ H (fun y H=>vCmp op1 x y H fun r =>
   cnd r (vE d ρ H (fun z H=>vCmp op2 y z H fun r=>Q (.bool r) H) X) (Q (.bool false) H)) X) X
 | .and a b,ρ,H,Q,X=>vE a ρ H (fun x H=>truthy x H fun t=>cnd t (vE b ρ H Q X) (Q x H)) X
 | .or a b,ρ,H,Q,X=>vE a ρ H (fun x H=>truthy x H fun t=>cnd t (Q x H) (vE b ρ H Q X)) X
 | .ife t a b,ρ,H,Q,X=>vE t ρ H (fun x H=>truthy x H fun r=>cnd r (vE a ρ H Q X) (vE b ρ H Q X)) X
 | .list es,ρ,H,Q,X=>vEs es ρ H (fun vs H=>∀ a,H a=none→Q (.ref a) (upd H a (.list vs))) X
 | .tup es,ρ,H,Q,X=>vEs es ρ H (fun vs H=>∀ a,H a=none→Q (.ref a) (upd H a (.tup vs))) X
 | .deck k1 k2 a b,ρ,H,Q,X=>vE a ρ H (fun x H=>vE b ρ H (fun y H=>k1≠k2∧∀ a,H a=none→Q (.ref a) (upd H a (.deck [(k1,x),(k2,y)]))) X) X
 | .dict0,_,H,Q,_=>∀ a,H a=none→Q (.ref a) (upd H a (.idict []))
 | .attr e n,ρ,H,Q,X=>vE e ρ H (fun x H=>vAttr T x n H fun v=>Q v H) X
 | .idx e i,ρ,H,Q,X=>vE e ρ H (fun x H=>vE i ρ H (fun y H=>vIdx x y H fun v=>Q v H) X) X
 | .key e k,ρ,H,Q,X=>vE e ρ H (fun x H=>vKey x k H fun v=>Q v H) X
 | .upto e n,ρ,H,Q,X=>vE e ρ H (fun x H=>onR x H fun xs=>∀ a,H a=none→Q (.ref a) (upd H a (.list (xs.take n)))) X
 | .all e,ρ,H,Q,X=>vE e ρ H (fun x H=>onL x H fun xs=>∀ a,H a=none→Q (.ref a) (upd H a (.list xs))) X
 | .rev e,ρ,H,Q,X=>vE e ρ H (fun x H=>onL x H fun xs=>∀ a,H a=none→Q (.ref a) (upd H a (.list xs.reverse))) X
 | .call f es,ρ,H,Q,X=>vEs es ρ H (fun vs H=>call f vs H Q X) X
 | .new C es,ρ,H,Q,X=>vEs es ρ H (fun vs H=>newC T call C vs H Q X) X
 | .meth o n es,ρ,H,Q,X=>vE o ρ H (fun x H=>vMeth T call x n (fun H K=>vEs es ρ H K X) H Q X) X
 | .len e,ρ,H,Q,X=>vE e ρ H (fun x H=>onL x H fun xs=>Q (.int xs.length) H) X
 | .max2 a b,ρ,H,Q,X=>vE a ρ H (fun x H=>vE b ρ H (fun y H=>hd=false∧int2 x y fun i j=>Q (.int (max i j)) H) X) X
 | .min2 a b,ρ,H,Q,X=>vE a ρ H (fun x H=>vE b ρ H (fun y H=>hd=false∧int2 x y fun i j=>Q (.int (min i j)) H) X) X
 | .maxl e,ρ,H,Q,X=>vE e ρ H (fun x H=>hd=false∧onL x H fun xs=>xs≠[]∧∃ ns:List Int,xs=ns.map AV.int∧∀ m,m∈ns→(∀ k∈ns,k≤m)→Q (.int m) H) X
 | .abs e,ρ,H,Q,X=>vE e ρ H (fun x H=>isI x fun i=>Q (.int (if i < 0 then -i else i)) H) X
 | .copy e,ρ,H,Q,X=>vE e ρ H (fun x H=>hd=false∧onL x H fun xs=>∀ a,H a=none→Q (.ref a) (upd H a (.list xs))) X
 | .listR lo hi,ρ,H,Q,X=>vE lo ρ H (fun x H=>vE hi ρ H (fun y H=>hd=false∧vRange x y fun zz xs=>∀ a,H a=none→Q (.ref a) (upd H a (.list xs))) X) X
 | .comp elt it,ρ,H,Q,X=>vT it ρ H (fun src xs H=>hd=false∧compL src (fun v H K=>vE elt (v::ρ) H K (fun zz zz=>False)) xs [] H (fun ws H=>∀ a,H a=none→Q (.ref a) (upd H a (.list ws)))) X
 | .compIf elt it cond,ρ,H,Q,X=>vT it ρ H (fun src xs H=>hd=false∧compIfL src (fun v H K=>vE cond (v::ρ) H (fun x H=>truthy x H fun b=>K b H) (fun zz zz=>False)) (fun v H K=>vE elt (v::ρ) H K (fun zz zz=>False)) xs [] H
   (fun ws H=>∀ a,H a=none→Q (.ref a) (upd H a (.list ws)))) X
noncomputable def vT:IT→List AV→AHeap→(Src→List AV→AHeap→Prop)→EQ→Prop
 | .over e,ρ,H,K,X=>vE e ρ H (fun x H=>vOver x H fun s xs=>K s xs H) X
 | .range lo hi,ρ,H,K,X=>vE lo ρ H (fun x H=>vE hi ρ H (fun y H=>vRange x y fun s xs=>K s xs H) X) X
noncomputable def vEs:IEs→List AV→AHeap→(List AV→AHeap→Prop)→EQ→Prop
 | .nil,_,H,Q,_=>Q [] H
 | .cons e es,ρ,H,Q,X=>vE e ρ H (fun v H=>vEs es ρ H (fun vs H=>Q (v::vs) H) X) X
end
end
noncomputable def unpL:List Nat→List AV→List AV→Option (List AV)
 | [],[],ρ=>some ρ
 | i::is,v::vs,ρ=>unpL is vs (lset ρ i v)
 | _,_,_=>none
section
variable (T:Tab) (calls:Bool→CallSem)
mutual
noncomputable def vS:IS→Bool→List AV→AHeap→SQ→SX→Prop
 | .expr e,hd,ρ,H,Q,X=>vE T hd (calls hd) e ρ H (fun zz H=>Q .next ρ H) (fun n H=>X n ρ H)
 | .ret e,hd,ρ,H,Q,X=>vE T hd (calls hd) e ρ H (fun v H=>Q (.ret v) ρ H) (fun n H=>X n ρ H)
 | .retN,_,ρ,H,Q,_=>Q (.ret .none) ρ H
 | .asg i e,hd,ρ,H,Q,X=>vE T hd (calls hd) e ρ H (fun v H=>Q .next (lset ρ i v) H) (fun n H=>X n ρ H)
 | .setA o n e,hd,ρ,H,Q,X=>vE T hd (calls hd) e ρ H (fun v H=>vE T hd (calls hd) o ρ H (fun x H=>vSetA T x n v H fun H=>Q .next ρ H) (fun n H=>X n ρ H)) (fun n H=>X n ρ H)
 | .setI o i e,hd,ρ,H,Q,X=>vE T hd (calls hd) e ρ H (fun v H=>vE T hd (calls hd) o ρ H (fun x H=>vE T hd (calls hd) i ρ H (fun y H=>vSetI x y v H fun H=>Q .next ρ H) (fun n H=>X n ρ H)) (fun n H=>X n ρ H)) (fun n H=>X n ρ H)
 | .unp is e,hd,ρ,H,Q,X=>vE T hd (calls hd) e ρ H (fun v H=>hd=false∧onT v H fun vs=>match unpL is vs ρ with | some ρ'=>Q .next ρ' H | none=>False) (fun n H=>X n ρ H)
 | .augL i op e,hd,ρ,H,Q,X=>isI (lget ρ i) fun x=>vE T hd (calls hd) e ρ H (fun y H=>vBin op (.int x) y H fun v H=>Q .next (lset ρ i v) H) (fun n H=>X n ρ H)
 | .augA o n op e,hd,ρ,H,Q,X=>vE T hd (calls hd) o ρ H (fun x H=>vAttr T x n H fun v=>isI v fun a=>vE T hd (calls hd) e ρ H (fun y H=>vBin op (.int a) y H fun r H=>vSetA T x n r H fun H=>Q .next ρ H) (fun n H=>X n ρ H)) (fun n H=>X n ρ H)
 | .augK o k op e,hd,ρ,H,Q,X=>vE T hd (calls hd) o ρ H (fun x H=>vKey x k H fun v=>isI v fun a=>vE T hd (calls hd) e ρ H (fun y H=>vBin op (.int a) y H fun r H=>vSetK x k r H fun H=>Q .next ρ H) (fun n H=>X n ρ H)) (fun n H=>X n ρ H)
 | .ite t a b,hd,ρ,H,Q,X=>vE T hd (calls hd) t ρ H (fun v H=>truthy v H fun r=>cnd r (vSs a hd ρ H Q X) (vSs b hd ρ H Q X)) (fun n H=>X n ρ H)
 | .whil t b,hd,ρ,H,Q,X=>∃ k,whileL (fun ρ H K=>vE T hd (calls hd) t ρ H (fun v H=>truthy v H fun r=>K r H) (fun n H=>X n ρ H)) (fun ρ H K=>vSs b hd ρ H K X) k ρ H Q
 | .for_ i it b,hd,ρ,H,Q,X=>vT T hd (calls hd) it ρ H (fun src xs H=>hd=false∧forL src i (fun ρ H K=>vSs b hd ρ H K X) xs ρ H Q) (fun n H=>X n ρ H)
 | .raiseStop e,hd,ρ,H,_,X=>vE T hd (calls hd) e ρ H (fun v H=>hd=false∧isInt v=true∧X v ρ H) (fun n H=>X n ρ H)
 | .tryStop b bind h,hd,ρ,H,Q,X=>hd=false∧vSs b hd ρ H Q fun n ρ' H'=>∀ a,H' a=none →
   (match bind with
    | none=>vSs h true ρ' H' Q (fun zz zz zz=>False)
    | some i=>vSs h true (lset ρ' i (.ref a)) (upd H' a (.exc n)) (fun fl ρ'' H''=>Q fl (lset ρ'' i .undef) H'') (fun zz zz zz=>False))
 | .pass,_,ρ,H,Q,_=>Q .next ρ H
 | .brk,_,ρ,H,Q,_=>Q .brk ρ H
 | .cont,_,ρ,H,Q,_=>Q .cont ρ H
 | .bad,_,_,_,_,_=>False
noncomputable def vSs:ISs→Bool→List AV→AHeap→SQ→SX→Prop
 | .nil,_,ρ,H,Q,_=>Q .next ρ H
 | .cons s r,hd,ρ,H,Q,X=>vS s hd ρ H (fun fl ρ H=>match fl with | .next=>vSs r hd ρ H Q X | fl=>Q fl ρ H) X
end
end
noncomputable def retQ (Q:EQ):SQ:=fun fl zz H'=>match fl with | .ret v=>Q v H' | .next=>Q .none H' | _=>False
noncomputable def callX (X:EQ):SX:=fun k zz H'=>X k H'
noncomputable def FWs (T:Tab) (F:Bool→CallSem):Bool→CallSem:=fun hd f args H Q X=>match T.fn f with
 | some fn=>args.length=fn.np∧vSs T F fn.body hd (args++List.replicate (fn.names.length - fn.np) .undef) H (retQ Q) (callX X)
 | none=>False
@[irreducible] noncomputable def FW (T:Tab) (n:Nat):Bool→CallSem:=Nat.rec (fun zz zz zz zz zz zz=>False) (fun zz F=>FWs T F) n
theorem FW_0 {T:Tab} {hd:Bool} {f:Nat} {args:List AV} {H:AHeap} {Q X:EQ} (h:FW T 0 hd f args H Q X):False:=by unfold FW at h;exact h
theorem FW_s {T:Tab} {n:Nat}:FW T (n+1)=FWs T (FW T n):=by unfold FW;rfl
end Bm
namespace Bm
open PySem
noncomputable def idx (x:Str):List String→Option Nat
 | []=>none
 | n::r=>if Str.ofString n=x then some 0 else(idx x r).map (· + 1)
noncomputable def gd {P:Prop}:(c:Bool)→(c=true→Option (PLift P))→Option (PLift P)
 | true,f=>f rfl
 | false,_=>none
noncomputable def gn {P:Prop}:(c:Bool)→(c=false→Option (PLift P))→Option (PLift P)
 | false,f=>f rfl
 | true,_=>none
noncomputable def gp {P:Prop} (c:Prop) [i:Decidable c] (f:c→Option (PLift P)):Option (PLift P):=match i with
 | .isTrue h=>f h
 | .isFalse _=>none
noncomputable def bd {P Q:Prop}:Option (PLift P)→(P→Option (PLift Q))→Option (PLift Q)
 | some ⟨h⟩,f=>f h
 | none,_=>none
noncomputable def ok {P:Prop} (h:P):Option (PLift P):=some ⟨h⟩
inductive GV where
 | int (i:Int) | fn (a:Nat) | cls (a:Nat)
noncomputable def gInts:List (String×Int):=[("MATE",32000),("DRAW",0),("INFINITE",32001),("MAX_PLY",246),("MATE_LEAST",31754),("NO_MOVE",0),("BOUND_NONE",0),("BOUND_UPPER",1),("BOUND_LOWER",2),("BOUND_EXACT",3),
 ("AGES",64),("DEPTH_LEAST",-8),("DEPTH_MOST",247),("VALUE_MOST",32767),("KEY_AT",48),("TABLE_STAGE",0),("GOOD_STAGE",1),("KILLER_STAGE",2),("QUIET_STAGE",3),("END_STAGE",5),("IID_DEPTH",4),("WIDE",1000)]
noncomputable def gFns:List (String×Nat):=[("mated_in",92),("mate_in",99),("to_table",106),("from_table",113),("step_into",148),("step_back",155),("unwind",162),("clear_line",169),("set_line",176),("line_from",183),
 ("pack_entry",190),("unpack_entry",197),("find_slot",204),("worth",211),("victim_slot",218),("pushes_out",225),("with_move",232),("cutoff",295),("scale_down",302),("reward",400),("killer_pair",407),("past_score",414),
 ("take_best",475),("quiesce",482),("quiesce_moves",489),("search",496),("search_moves",503),("search_child",510),("look_up",517),("keep_value",524),("root_value",531),("lower_edge",559),("upper_edge",566),("aspirate",573),
 ("deepest",580),("iterate",587),("mtdf",594),("_law_card",697),("_law_deal",702),("_law_full",709),("_law_leads",716),("_law_game",721),("_law_context",728),("_law_at_root",735),("_law_reports",740),("_law_guess",747),("law",752)]
noncomputable def gCls:List (String×Nat):=[("SearchContext",137),("TransTable",284),("History",347),("Killers",389),("Picker",464),("Report",548),("TreeGame",686),("SearchStopped",71)]
noncomputable def isG (sc:List (Str×NameKind)) (nm:List String) (x:Str):Bool:=decide (idx x nm=none)&&decide (sc.lookup x=some .globalImplicit)&&decide (x≠"__debug__")
noncomputable def gint (x:Str):List (String×Int)→Option Int
 | []=>none
 | (n,i)::r=>if Str.ofString n=x then some i else gint x r
noncomputable def gnat (x:Str):List (String×Nat)→Option Nat
 | []=>none
 | (n,i)::r=>if Str.ofString n=x then some i else gnat x r
noncomputable def okKind:Option NameKind→Bool
 | some .local=>true
 | some .cell=>true
 | some .free=>true
 | _=>false
noncomputable def bopOf:Operator→Option BOp
 | .Add=>some .add | .Sub=>some .sub | .Mult=>some .mul | .FloorDiv=>some .fdiv | .Mod=>some .mod
 | .BitAnd=>some .band | .BitOr=>some .bor | .LShift=>some .shl | .RShift=>some .shr
 | _=>none
noncomputable def aopOf:Operator→Option BOp
 | .Add=>some .add | .Sub=>some .sub
 | _=>none
noncomputable def copOf:CmpOp→COp
 | .Eq=>.eq | .NotEq=>.ne | .Lt=>.lt | .LtE=>.le | .Gt=>.gt | .GtE=>.ge
 | .Is=>.is | .IsNot=>.isnot | .In=>.inn | .NotIn=>.notin
noncomputable def bare:Expr→Bool
 | .Call (.Name ..) [] [] _=>true
 | _=>false
noncomputable def isSet:Expr→Bool
 | .Set ..=>true
 | _=>false
noncomputable def isStar:Expr→Bool
 | .Starred ..=>true
 | _=>false
noncomputable def cscope (sc:List (Str×NameKind)) (names:List (Str×NameKind)):List (Str×NameKind) :=
 names.map fun(n,k)=>if k == .free&&(sc.lookup n == some .cell) then(n,.cell) else(n,k)
noncomputable def cscopeOk (sc:List (Str×NameKind)) (nm:List String) (t:Str) (names:List (Str×NameKind)):Bool :=
 names.all fun(n,k)=>(k != .local||decide (names.lookup n=some .local))&&match k with
  | .free=>decide (n≠t)&&(decide (sc.lookup n=some .cell)||decide (sc.lookup n=some .free))&&decide (idx n nm≠none)
  | .local=>decide (n=t)||(decide (n = ".0")&&decide (idx n nm=none))
  | .cell=>decide (n=t)
  | .globalImplicit=>decide (n≠t)&&decide (idx n nm=none)
  | _=>false
noncomputable def isComp:Expr→Bool
 | .ListComp .. | .SetComp .. | .DictComp ..=>true
 | _=>false
noncomputable def isTup:Expr→Bool
 | .Tuple .. | .List ..=>true
 | _=>false
inductive N2 (nm:List String):List Expr→List Nat→Prop where
 | nil:N2 nm [] []
 | cons {x:Str} {p:Pos} {r:List Expr} {i:Nat} {is:List Nat} (h:idx x nm=some i) (t:N2 nm r is):N2 nm (.Name x p::r) (i::is)
noncomputable def mkN2 (nm:List String):∀ (ts:List Expr) (is:List Nat),Option (PLift (N2 nm ts is))
 | [],[]=>some ⟨.nil⟩
 | .Name x _::r,i::is=>gp (idx x nm=some i) fun h=>bd (mkN2 nm r is) fun t=>ok (.cons h t)
 | _,_=>none
noncomputable def names2 (nm:List String) (ts:List Expr) (is:List Nat):Bool:=(mkN2 nm ts is).isSome
noncomputable def nodup:List String→Bool
 | []=>true
 | n::r=>decide (n∉r)&&nodup r
end Bm
namespace Bm
noncomputable def ir_mated_in:ISs:=(.cons (.ret (.bin .sub (.loc 0) (.c (.int 32000)))) .nil)
noncomputable def fn_mated_in:Fn:=⟨["ply"],1,ir_mated_in⟩
noncomputable def ir_mate_in:ISs:=(.cons (.ret (.bin .sub (.c (.int 32000)) (.loc 0))) .nil)
noncomputable def fn_mate_in:Fn:=⟨["ply"],1,ir_mate_in⟩
noncomputable def ir_to_table:ISs:=(.cons (.ite (.cmp .ge (.loc 0) (.c (.int 31754))) (.cons (.ret (.bin .add (.loc 0) (.loc 1))) .nil) .nil) (.cons (.ite (.cmp .le (.loc 0) (.neg (.c (.int 31754)))) (.cons (.ret (.bin .sub (.loc 0) (.loc 1))) .nil) .nil) (.cons (.ret (.loc 0)) .nil)))
noncomputable def fn_to_table:Fn:=⟨["value","ply"],2,ir_to_table⟩
noncomputable def ir_from_table:ISs:=(.cons (.ite (.cmp .ge (.loc 0) (.c (.int 31754))) (.cons (.ret (.bin .sub (.loc 0) (.loc 1))) .nil) .nil) (.cons (.ite (.cmp .le (.loc 0) (.neg (.c (.int 31754)))) (.cons (.ret (.bin .add (.loc 0) (.loc 1))) .nil) .nil) (.cons (.ret (.loc 0)) .nil)))
noncomputable def fn_from_table:Fn:=⟨["value","ply"],2,ir_from_table⟩
noncomputable def ir_SearchContext_init:ISs:=(.cons (.setA (.loc 0) "game" (.loc 1)) (.cons (.setA (.loc 0) "table" (.loc 2)) (.cons (.setA (.loc 0) "killers" (.loc 3)) (.cons (.setA (.loc 0) "history" (.loc 4)) (.cons (.setA (.loc 0) "qdepth" (.loc 5)) (.cons (.setA (.loc 0) "is_exact" (.loc 6)) (.cons (.setA (.loc 0) "max_nodes" (.loc 7)) (.cons (.setA (.loc 0) "nodes" (.c (.int 0))) (.cons (.setA (.loc 0) "made" (.c (.int 0))) (.cons (.setA (.loc 0) "lines" (.list (.cons (.list .nil) .nil))) .nil))))))))))
noncomputable def fn_SearchContext_init:Fn:=⟨["self","game","table","killers","history","qdepth","is_exact","max_nodes"],8,ir_SearchContext_init⟩
noncomputable def ir_SearchContext_tick:ISs:=(.cons (.ite (.and (.cmp .gt (.attr (.loc 0) "max_nodes") (.c (.int 0))) (.cmp .ge (.attr (.loc 0) "nodes") (.attr (.loc 0) "max_nodes"))) (.cons (.raiseStop (.attr (.loc 0) "nodes")) .nil) .nil) (.cons (.augA (.loc 0) "nodes" .add (.c (.int 1))) .nil))
noncomputable def fn_SearchContext_tick:Fn:=⟨["self"],1,ir_SearchContext_tick⟩
noncomputable def ir_step_into:ISs:=(.cons (.expr (.meth (.attr (.loc 0) "game") "make" (.cons (.loc 1) .nil))) (.cons (.augA (.loc 0) "made" .add (.c (.int 1))) .nil))
noncomputable def fn_step_into:Fn:=⟨["ctx","move"],2,ir_step_into⟩
noncomputable def ir_step_back:ISs:=(.cons (.expr (.meth (.attr (.loc 0) "game") "undo" .nil)) (.cons (.augA (.loc 0) "made" .sub (.c (.int 1))) .nil))
noncomputable def fn_step_back:Fn:=⟨["ctx"],1,ir_step_back⟩
noncomputable def ir_unwind_loop0:ISs:=(.cons (.expr (.call 155 (.cons (.loc 0) .nil))) .nil)
noncomputable def ir_unwind:ISs:=(.cons (.whil (.cmp .gt (.attr (.loc 0) "made") (.c (.int 0))) ir_unwind_loop0) .nil)
noncomputable def fn_unwind:Fn:=⟨["ctx"],1,ir_unwind⟩
noncomputable def ir_clear_line_loop0:ISs:=(.cons (.expr (.meth (.attr (.loc 0) "lines") "append" (.cons (.list .nil) .nil))) .nil)
noncomputable def ir_clear_line:ISs:=(.cons (.whil (.cmp .le (.len (.attr (.loc 0) "lines")) (.loc 1)) ir_clear_line_loop0) (.cons (.setI (.attr (.loc 0) "lines") (.loc 1) (.list .nil)) .nil))
noncomputable def fn_clear_line:Fn:=⟨["ctx","ply"],2,ir_clear_line⟩
noncomputable def ir_set_line:ISs:=(.cons (.setI (.attr (.loc 0) "lines") (.loc 1) (.bin .add (.list (.cons (.loc 2) .nil)) (.idx (.attr (.loc 0) "lines") (.bin .add (.loc 1) (.c (.int 1)))))) .nil)
noncomputable def fn_set_line:Fn:=⟨["ctx","ply","move"],3,ir_set_line⟩
noncomputable def ir_line_from:ISs:=(.cons (.ret (.all (.idx (.attr (.loc 0) "lines") (.loc 1)))) .nil)
noncomputable def fn_line_from:Fn:=⟨["ctx","ply"],2,ir_line_from⟩
noncomputable def ir_pack_entry:ISs:=(.cons (.ite (.cmp .lt (.loc 0) (.c (.int 0))) (.cons .bad .nil) .nil) (.cons (.ite (.or (.cmp .lt (.loc 1) (.c (.int 0))) (.cmp .gt (.loc 1) (.c (.int 65535)))) (.cons .bad .nil) .nil) (.cons (.ite (.or (.cmp .lt (.loc 2) (.neg (.c (.int 32767)))) (.cmp .gt (.loc 2) (.c (.int 32767)))) (.cons .bad .nil) .nil) (.cons (.ite (.or (.cmp .lt (.loc 3) (.c (.int (-8)))) (.cmp .gt (.loc 3) (.c (.int 247)))) (.cons .bad .nil) .nil) (.cons (.ite (.or (.cmp .lt (.loc 4) (.c (.int 0))) (.cmp .gt (.loc 4) (.c (.int 3)))) (.cons .bad .nil) .nil) (.cons (.ite (.or (.cmp .lt (.loc 5) (.c (.int 0))) (.cmp .ge (.loc 5) (.c (.int 64)))) (.cons .bad .nil) .nil) (.cons (.asg 6 (.bin .bor (.bin .bor (.loc 1) (.bin .shl (.bin .add (.bin .add (.loc 2) (.c (.int 32767))) (.c (.int 1))) (.c (.int 16)))) (.bin .shl (.bin .sub (.loc 3) (.c (.int (-8)))) (.c (.int 32))))) (.cons (.ret (.bin .bor (.bin .bor (.bin .bor (.loc 6) (.bin .shl (.loc 4) (.c (.int 40)))) (.bin .shl (.loc 5) (.c (.int 42)))) (.bin .shl (.loc 0) (.c (.int 48))))) .nil))))))))
noncomputable def fn_pack_entry:Fn:=⟨["key","move","value","depth","bound","age","low"],6,ir_pack_entry⟩
noncomputable def ir_unpack_entry:ISs:=(.cons (.asg 1 (.bin .band (.loc 0) (.c (.int 65535)))) (.cons (.asg 2 (.bin .sub (.bin .sub (.bin .band (.bin .shr (.loc 0) (.c (.int 16))) (.c (.int 65535))) (.c (.int 32767))) (.c (.int 1)))) (.cons (.asg 3 (.bin .add (.bin .band (.bin .shr (.loc 0) (.c (.int 32))) (.c (.int 255))) (.c (.int (-8))))) (.cons (.ret (.tup (.cons (.bin .shr (.loc 0) (.c (.int 48))) (.cons (.loc 1) (.cons (.loc 2) (.cons (.loc 3) (.cons (.bin .band (.bin .shr (.loc 0) (.c (.int 40))) (.c (.int 3))) (.cons (.bin .band (.bin .shr (.loc 0) (.c (.int 42))) (.c (.int 63))) .nil)))))))) .nil))))
noncomputable def fn_unpack_entry:Fn:=⟨["entry","move","value","depth"],1,ir_unpack_entry⟩
noncomputable def ir_find_slot_loop0:ISs:=(.cons (.ite (.and (.cmp .ne (.idx (.loc 0) (.loc 4)) (.c (.int 0))) (.cmp .eq (.bin .shr (.idx (.loc 0) (.loc 4)) (.c (.int 48))) (.loc 3))) (.cons (.ret (.loc 4)) .nil) .nil) .nil)
noncomputable def ir_find_slot:ISs:=(.cons (.for_ 4 (.range (.loc 1) (.bin .add (.loc 1) (.loc 2))) ir_find_slot_loop0) (.cons (.ret (.neg (.c (.int 1)))) .nil))
noncomputable def fn_find_slot:Fn:=⟨["slots","start","ways","key","at"],4,ir_find_slot⟩
noncomputable def ir_worth:ISs:=(.cons (.ret (.bin .sub (.idx (.call 197 (.cons (.loc 0) .nil)) (.c (.int 3))) (.bin .mul (.c (.int 8)) (.bin .mod (.bin .sub (.loc 1) (.bin .band (.bin .shr (.loc 0) (.c (.int 42))) (.c (.int 63)))) (.c (.int 64)))))) .nil)
noncomputable def fn_worth:Fn:=⟨["entry","age"],2,ir_worth⟩
noncomputable def ir_victim_slot_loop0:ISs:=(.cons (.ite (.cmp .eq (.idx (.loc 0) (.loc 5)) (.c (.int 0))) (.cons (.ret (.loc 5)) .nil) .nil) (.cons (.ite (.cmp .lt (.call 211 (.cons (.idx (.loc 0) (.loc 5)) (.cons (.loc 3) .nil))) (.call 211 (.cons (.idx (.loc 0) (.loc 4)) (.cons (.loc 3) .nil)))) (.cons (.asg 4 (.loc 5)) .nil) .nil) .nil))
noncomputable def ir_victim_slot:ISs:=(.cons (.asg 4 (.loc 1)) (.cons (.for_ 5 (.range (.loc 1) (.bin .add (.loc 1) (.loc 2))) ir_victim_slot_loop0) (.cons (.ret (.loc 4)) .nil)))
noncomputable def fn_victim_slot:Fn:=⟨["slots","start","ways","age","found","at"],4,ir_victim_slot⟩
noncomputable def ir_pushes_out:ISs:=(.cons (.ite (.or (.cmp .eq (.loc 2) (.c (.int 3))) (.cmp .ne (.bin .band (.bin .shr (.loc 0) (.c (.int 42))) (.c (.int 63))) (.loc 3))) (.cons (.ret (.c (.bool true))) .nil) .nil) (.cons (.ret (.cmp .gt (.loc 1) (.bin .sub (.idx (.call 197 (.cons (.loc 0) .nil)) (.c (.int 3))) (.c (.int 4))))) .nil))
noncomputable def fn_pushes_out:Fn:=⟨["entry","depth","bound","age"],4,ir_pushes_out⟩
noncomputable def ir_with_move:ISs:=(.cons (.ret (.bin .add (.bin .sub (.loc 0) (.bin .band (.loc 0) (.c (.int 65535)))) (.loc 1))) .nil)
noncomputable def fn_with_move:Fn:=⟨["entry","move"],2,ir_with_move⟩
noncomputable def ir_TransTable_init:ISs:=(.cons (.ite (.or (.cmp .lt (.loc 1) (.c (.int 1))) (.cmp .lt (.loc 2) (.c (.int 1)))) (.cons .bad .nil) .nil) (.cons (.setA (.loc 0) "clusters" (.loc 1)) (.cons (.setA (.loc 0) "ways" (.loc 2)) (.cons (.setA (.loc 0) "age" (.c (.int 0))) (.cons (.setA (.loc 0) "slots" (.bin .mul (.list (.cons (.c (.int 0)) .nil)) (.bin .mul (.loc 1) (.loc 2)))) .nil)))))
noncomputable def fn_TransTable_init:Fn:=⟨["self","clusters","ways"],3,ir_TransTable_init⟩
noncomputable def ir_TransTable_probe:ISs:=(.cons (.asg 2 (.call 204 (.cons (.attr (.loc 0) "slots") (.cons (.bin .mul (.bin .mod (.loc 1) (.attr (.loc 0) "clusters")) (.attr (.loc 0) "ways")) (.cons (.attr (.loc 0) "ways") (.cons (.loc 1) .nil)))))) (.cons (.ite (.cmp .lt (.loc 2) (.c (.int 0))) (.cons (.ret (.c .none)) .nil) .nil) (.cons (.asg 3 (.call 197 (.cons (.idx (.attr (.loc 0) "slots") (.loc 2)) .nil))) (.cons (.ret (.tup (.cons (.idx (.loc 3) (.c (.int 1))) (.cons (.idx (.loc 3) (.c (.int 2))) (.cons (.idx (.loc 3) (.c (.int 3))) (.cons (.idx (.loc 3) (.c (.int 4))) .nil)))))) .nil))))
noncomputable def fn_TransTable_probe:Fn:=⟨["self","key","at","row"],2,ir_TransTable_probe⟩
noncomputable def ir_TransTable_save:ISs:=(.cons (.asg 6 (.call 190 (.cons (.loc 1) (.cons (.loc 2) (.cons (.loc 3) (.cons (.loc 4) (.cons (.loc 5) (.cons (.attr (.loc 0) "age") .nil)))))))) (.cons (.asg 7 (.bin .mul (.bin .mod (.loc 1) (.attr (.loc 0) "clusters")) (.attr (.loc 0) "ways"))) (.cons (.asg 8 (.call 204 (.cons (.attr (.loc 0) "slots") (.cons (.loc 7) (.cons (.attr (.loc 0) "ways") (.cons (.loc 1) .nil)))))) (.cons (.ite (.cmp .lt (.loc 8) (.c (.int 0))) (.cons (.asg 8 (.call 218 (.cons (.attr (.loc 0) "slots") (.cons (.loc 7) (.cons (.attr (.loc 0) "ways") (.cons (.attr (.loc 0) "age") .nil)))))) (.cons (.setI (.attr (.loc 0) "slots") (.loc 8) (.loc 6)) (.cons .retN .nil))) .nil) (.cons (.asg 9 (.idx (.attr (.loc 0) "slots") (.loc 8))) (.cons (.ite (.cmp .eq (.loc 2) (.c (.int 0))) (.cons (.asg 6 (.call 232 (.cons (.loc 6) (.cons (.bin .band (.loc 9) (.c (.int 65535))) .nil)))) .nil) .nil) (.cons (.ite (.call 225 (.cons (.loc 9) (.cons (.loc 4) (.cons (.loc 5) (.cons (.attr (.loc 0) "age") .nil))))) (.cons (.setI (.attr (.loc 0) "slots") (.loc 8) (.loc 6)) .nil) (.cons (.setI (.attr (.loc 0) "slots") (.loc 8) (.call 232 (.cons (.loc 9) (.cons (.bin .band (.loc 6) (.c (.int 65535))) .nil)))) .nil)) .nil)))))))
noncomputable def fn_TransTable_save:Fn:=⟨["self","key","move","value","depth","bound","entry","start","at","old"],6,ir_TransTable_save⟩
noncomputable def ir_TransTable_new_search:ISs:=(.cons (.setA (.loc 0) "age" (.bin .mod (.bin .add (.attr (.loc 0) "age") (.c (.int 1))) (.c (.int 64)))) .nil)
noncomputable def fn_TransTable_new_search:Fn:=⟨["self"],1,ir_TransTable_new_search⟩
noncomputable def ir_cutoff:ISs:=(.cons (.ite (.and (.loc 4) (.cmp .ne (.loc 1) (.loc 3))) (.cons (.ret (.c (.bool false))) .nil) .nil) (.cons (.ite (.cmp .lt (.loc 1) (.loc 3)) (.cons (.ret (.c (.bool false))) .nil) .nil) (.cons (.ite (.cmp .eq (.loc 2) (.c (.int 3))) (.cons (.ret (.c (.bool true))) .nil) .nil) (.cons (.ite (.cmp .eq (.loc 2) (.c (.int 2))) (.cons (.ret (.cmp .ge (.loc 0) (.loc 6))) .nil) .nil) (.cons (.ite (.cmp .eq (.loc 2) (.c (.int 1))) (.cons (.ret (.cmp .le (.loc 0) (.loc 5))) .nil) .nil) (.cons (.ret (.c (.bool false))) .nil))))))
noncomputable def fn_cutoff:Fn:=⟨["value","depth","bound","want","is_exact","alpha","beta"],7,ir_cutoff⟩
noncomputable def ir_scale_down:ISs:=(.cons (.ite (.cmp .lt (.loc 0) (.c (.int 0))) (.cons (.ret (.neg (.bin .fdiv (.bin .mul (.neg (.loc 0)) (.loc 1)) (.loc 2)))) .nil) .nil) (.cons (.ret (.bin .fdiv (.bin .mul (.loc 0) (.loc 1)) (.loc 2))) .nil))
noncomputable def fn_scale_down:Fn:=⟨["value","by","limit"],3,ir_scale_down⟩
noncomputable def ir_History_init:ISs:=(.cons (.ite (.cmp .lt (.loc 1) (.c (.int 1))) (.cons .bad .nil) .nil) (.cons (.setA (.loc 0) "limit" (.loc 1)) (.cons (.setA (.loc 0) "scores" .dict0) .nil)))
noncomputable def fn_History_init:Fn:=⟨["self","limit"],2,ir_History_init⟩
noncomputable def ir_History_get:ISs:=(.cons (.ret (.meth (.attr (.loc 0) "scores") "get" (.cons (.bin .add (.bin .mul (.loc 1) (.c (.int 65536))) (.loc 2)) (.cons (.c (.int 0)) .nil)))) .nil)
noncomputable def fn_History_get:Fn:=⟨["self","side","move"],3,ir_History_get⟩
noncomputable def ir_History_update:ISs:=(.cons (.asg 3 (.max2 (.neg (.attr (.loc 0) "limit")) (.min2 (.attr (.loc 0) "limit") (.loc 3)))) (.cons (.asg 4 (.bin .add (.bin .mul (.loc 1) (.c (.int 65536))) (.loc 2))) (.cons (.asg 5 (.meth (.attr (.loc 0) "scores") "get" (.cons (.loc 4) (.cons (.c (.int 0)) .nil)))) (.cons (.setI (.attr (.loc 0) "scores") (.loc 4) (.bin .sub (.bin .add (.loc 5) (.loc 3)) (.call 302 (.cons (.loc 5) (.cons (.abs (.loc 3)) (.cons (.attr (.loc 0) "limit") .nil)))))) .nil))))
noncomputable def fn_History_update:Fn:=⟨["self","side","move","bonus","at","old"],4,ir_History_update⟩
noncomputable def ir_History_bonus:ISs:=(.cons (.ret (.min2 (.attr (.loc 0) "limit") (.bin .add (.bin .mul (.bin .mul (.c (.int 16)) (.loc 1)) (.loc 1)) (.bin .mul (.c (.int 32)) (.loc 1))))) .nil)
noncomputable def fn_History_bonus:Fn:=⟨["self","depth"],2,ir_History_bonus⟩
noncomputable def ir_Killers_init:ISs:=(.cons (.setA (.loc 0) "plies" (.loc 1)) (.cons (.setA (.loc 0) "first" (.bin .mul (.list (.cons (.c (.int 0)) .nil)) (.loc 1))) (.cons (.setA (.loc 0) "second" (.bin .mul (.list (.cons (.c (.int 0)) .nil)) (.loc 1))) .nil)))
noncomputable def fn_Killers_init:Fn:=⟨["self","plies"],2,ir_Killers_init⟩
noncomputable def ir_Killers_add:ISs:=(.cons (.ite (.and (.cmp .lt (.loc 1) (.attr (.loc 0) "plies")) (.cmp .ne (.idx (.attr (.loc 0) "first") (.loc 1)) (.loc 2))) (.cons (.setI (.attr (.loc 0) "second") (.loc 1) (.idx (.attr (.loc 0) "first") (.loc 1))) (.cons (.setI (.attr (.loc 0) "first") (.loc 1) (.loc 2)) .nil)) .nil) .nil)
noncomputable def fn_Killers_add:Fn:=⟨["self","ply","move"],3,ir_Killers_add⟩
noncomputable def ir_Killers_pair:ISs:=(.cons (.ite (.cmp .lt (.loc 1) (.attr (.loc 0) "plies")) (.cons (.ret (.tup (.cons (.idx (.attr (.loc 0) "first") (.loc 1)) (.cons (.idx (.attr (.loc 0) "second") (.loc 1)) .nil)))) .nil) .nil) (.cons (.ret (.tup (.cons (.c (.int 0)) (.cons (.c (.int 0)) .nil)))) .nil))
noncomputable def fn_Killers_pair:Fn:=⟨["self","ply"],2,ir_Killers_pair⟩
noncomputable def ir_Killers_clear:ISs:=(.cons (.ite (.cmp .lt (.loc 1) (.attr (.loc 0) "plies")) (.cons (.setI (.attr (.loc 0) "first") (.loc 1) (.c (.int 0))) (.cons (.setI (.attr (.loc 0) "second") (.loc 1) (.c (.int 0))) .nil)) .nil) .nil)
noncomputable def fn_Killers_clear:Fn:=⟨["self","ply"],2,ir_Killers_clear⟩
noncomputable def ir_reward_loop0:ISs:=(.cons (.ite (.cmp .ne (.loc 8) (.loc 5)) (.cons (.expr (.meth (.loc 0) "update" (.cons (.loc 2) (.cons (.loc 8) (.cons (.neg (.loc 7)) .nil))))) .nil) .nil) .nil)
noncomputable def ir_reward:ISs:=(.cons (.expr (.meth (.loc 1) "add" (.cons (.loc 3) (.cons (.loc 5) .nil)))) (.cons (.asg 7 (.meth (.loc 0) "bonus" (.cons (.loc 4) .nil))) (.cons (.expr (.meth (.loc 0) "update" (.cons (.loc 2) (.cons (.loc 5) (.cons (.loc 7) .nil))))) (.cons (.for_ 8 (.over (.loc 6)) ir_reward_loop0) .nil))))
noncomputable def fn_reward:Fn:=⟨["history","killers","side","ply","depth","best","tried","bonus","move"],7,ir_reward⟩
noncomputable def ir_killer_pair:ISs:=(.cons (.ite (.cmp .is (.loc 0) (.c .none)) (.cons (.ret (.tup (.cons (.c (.int 0)) (.cons (.c (.int 0)) .nil)))) .nil) .nil) (.cons (.ret (.meth (.loc 0) "pair" (.cons (.loc 1) .nil))) .nil))
noncomputable def fn_killer_pair:Fn:=⟨["killers","ply"],2,ir_killer_pair⟩
noncomputable def ir_past_score:ISs:=(.cons (.ite (.cmp .is (.loc 0) (.c .none)) (.cons (.ret (.c (.int 0))) .nil) .nil) (.cons (.ret (.meth (.loc 0) "get" (.cons (.loc 1) (.cons (.loc 2) .nil)))) .nil))
noncomputable def fn_past_score:Fn:=⟨["history","side","move"],3,ir_past_score⟩
noncomputable def ir_Picker_init:ISs:=(.cons (.setA (.loc 0) "game" (.loc 1)) (.cons (.setA (.loc 0) "left" (.copy (.loc 2))) (.cons (.setA (.loc 0) "table_move" (.loc 3)) (.cons (.setA (.loc 0) "killers" (.loc 4)) (.cons (.setA (.loc 0) "history" (.loc 5)) (.cons (.setA (.loc 0) "ply" (.loc 6)) (.cons (.setA (.loc 0) "stage" (.c (.int 0))) (.cons (.setA (.loc 0) "ready" (.list .nil)) (.cons (.setA (.loc 0) "losing" (.list .nil)) .nil)))))))))
noncomputable def fn_Picker_init:Fn:=⟨["self","game","moves","table_move","killers","history","ply"],7,ir_Picker_init⟩
noncomputable def ir_Picker_next_loop0:ISs:=(.cons (.ite (.cmp .eq (.attr (.loc 0) "stage") (.c (.int 5))) (.cons (.ret (.c (.int 0))) .nil) .nil) (.cons (.setA (.loc 0) "ready" (.meth (.loc 0) "fill" (.cons (.attr (.loc 0) "stage") .nil))) (.cons (.augA (.loc 0) "stage" .add (.c (.int 1))) .nil)))
noncomputable def ir_Picker_next:ISs:=(.cons (.whil (.not (.attr (.loc 0) "ready")) ir_Picker_next_loop0) (.cons (.ret (.call 475 (.cons (.attr (.loc 0) "ready") .nil))) .nil))
noncomputable def fn_Picker_next:Fn:=⟨["self"],1,ir_Picker_next⟩
noncomputable def ir_Picker_fill:ISs:=(.cons (.ite (.cmp .eq (.loc 1) (.c (.int 0))) (.cons (.ret (.meth (.loc 0) "fill_table" .nil)) .nil) .nil) (.cons (.ite (.cmp .eq (.loc 1) (.c (.int 1))) (.cons (.ret (.meth (.loc 0) "fill_good" .nil)) .nil) .nil) (.cons (.ite (.cmp .eq (.loc 1) (.c (.int 2))) (.cons (.ret (.meth (.loc 0) "fill_killers" .nil)) .nil) .nil) (.cons (.ite (.cmp .eq (.loc 1) (.c (.int 3))) (.cons (.asg 2 (.meth (.attr (.loc 0) "game") "side" .nil)) (.cons (.ret (.comp (.tup (.cons (.call 414 (.cons (.attr (.loc 1) "history") (.cons (.loc 3) (.cons (.loc 0) .nil)))) (.cons (.loc 0) .nil))) (.over (.attr (.loc 0) "left")))) .nil)) .nil) (.cons (.ret (.attr (.loc 0) "losing")) .nil)))))
noncomputable def fn_Picker_fill:Fn:=⟨["self","stage","side"],2,ir_Picker_fill⟩
noncomputable def ir_Picker_fill_table:ISs:=(.cons (.ite (.cmp .notin (.attr (.loc 0) "table_move") (.attr (.loc 0) "left")) (.cons (.ret (.list .nil)) .nil) .nil) (.cons (.expr (.meth (.attr (.loc 0) "left") "remove" (.cons (.attr (.loc 0) "table_move") .nil))) (.cons (.ret (.list (.cons (.tup (.cons (.c (.int 0)) (.cons (.attr (.loc 0) "table_move") .nil))) .nil))) .nil)))
noncomputable def fn_Picker_fill_table:Fn:=⟨["self"],1,ir_Picker_fill_table⟩
noncomputable def ir_Picker_fill_good_loop0:ISs:=(.cons (.ite (.not (.meth (.attr (.loc 0) "game") "is_noisy" (.cons (.loc 3) .nil))) (.cons (.expr (.meth (.loc 2) "append" (.cons (.loc 3) .nil))) (.cons .cont .nil)) .nil) (.cons (.asg 4 (.meth (.attr (.loc 0) "game") "gain" (.cons (.loc 3) .nil))) (.cons (.ite (.cmp .ge (.loc 4) (.c (.int 0))) (.cons (.expr (.meth (.loc 1) "append" (.cons (.tup (.cons (.loc 4) (.cons (.loc 3) .nil))) .nil))) .nil) (.cons (.expr (.meth (.attr (.loc 0) "losing") "append" (.cons (.tup (.cons (.loc 4) (.cons (.loc 3) .nil))) .nil))) .nil)) .nil)))
noncomputable def ir_Picker_fill_good:ISs:=(.cons (.asg 1 (.list .nil)) (.cons (.asg 2 (.list .nil)) (.cons (.for_ 3 (.over (.attr (.loc 0) "left")) ir_Picker_fill_good_loop0) (.cons (.setA (.loc 0) "left" (.loc 2)) (.cons (.ret (.loc 1)) .nil)))))
noncomputable def fn_Picker_fill_good:Fn:=⟨["self","good","quiet","move","gain"],1,ir_Picker_fill_good⟩
noncomputable def ir_Picker_fill_killers_loop0:ISs:=(.cons (.ite (.cmp .inn (.loc 2) (.attr (.loc 0) "left")) (.cons (.expr (.meth (.attr (.loc 0) "left") "remove" (.cons (.loc 2) .nil))) (.cons (.expr (.meth (.loc 1) "append" (.cons (.tup (.cons (.c (.int 0)) (.cons (.loc 2) .nil))) .nil))) .nil)) .nil) .nil)
noncomputable def ir_Picker_fill_killers:ISs:=(.cons (.asg 1 (.list .nil)) (.cons (.for_ 2 (.over (.call 407 (.cons (.attr (.loc 0) "killers") (.cons (.attr (.loc 0) "ply") .nil)))) ir_Picker_fill_killers_loop0) (.cons (.ret (.loc 1)) .nil)))
noncomputable def fn_Picker_fill_killers:Fn:=⟨["self","found","move"],1,ir_Picker_fill_killers⟩
noncomputable def ir_take_best_loop0:ISs:=(.cons (.ite (.cmp .gt (.idx (.idx (.loc 0) (.loc 2)) (.c (.int 0))) (.idx (.idx (.loc 0) (.loc 1)) (.c (.int 0)))) (.cons (.asg 1 (.loc 2)) .nil) .nil) .nil)
noncomputable def ir_take_best:ISs:=(.cons (.asg 1 (.c (.int 0))) (.cons (.for_ 2 (.range (.c (.int 1)) (.len (.loc 0))) ir_take_best_loop0) (.cons (.ret (.idx (.meth (.loc 0) "pop" (.cons (.loc 1) .nil)) (.c (.int 1)))) .nil)))
noncomputable def fn_take_best:Fn:=⟨["scored","best","at"],1,ir_take_best⟩
noncomputable def ir_quiesce:ISs:=(.cons (.expr (.meth (.loc 0) "tick" .nil)) (.cons (.asg 5 (.attr (.loc 0) "game")) (.cons (.ite (.and (.cmp .gt (.loc 3) (.c (.int 0))) (.meth (.loc 5) "is_draw" .nil)) (.cons (.ret (.c (.int 0))) .nil) .nil) (.cons (.ite (.meth (.loc 5) "in_check" .nil) (.cons (.asg 6 (.meth (.loc 5) "moves" .nil)) (.cons (.ite (.not (.loc 6)) (.cons (.ret (.call 92 (.cons (.loc 3) .nil))) .nil) .nil) (.cons (.ite (.cmp .le (.loc 4) (.c (.int 0))) (.cons (.ret (.meth (.loc 5) "value" .nil)) .nil) .nil) (.cons (.ret (.call 489 (.cons (.loc 0) (.cons (.loc 6) (.cons (.neg (.c (.int 32001))) (.cons (.loc 1) (.cons (.loc 2) (.cons (.loc 3) (.cons (.loc 4) .nil))))))))) .nil)))) .nil) (.cons (.asg 7 (.meth (.loc 5) "value" .nil)) (.cons (.ite (.or (.cmp .le (.loc 4) (.c (.int 0))) (.cmp .ge (.loc 7) (.loc 2))) (.cons (.ret (.loc 7)) .nil) .nil) (.cons (.ret (.call 489 (.cons (.loc 0) (.cons (.meth (.loc 5) "noisy" .nil) (.cons (.loc 7) (.cons (.max2 (.loc 1) (.loc 7)) (.cons (.loc 2) (.cons (.loc 3) (.cons (.loc 4) .nil))))))))) .nil)))))))
noncomputable def fn_quiesce:Fn:=⟨["ctx","alpha","beta","ply","qdepth","game","moves","best"],5,ir_quiesce⟩
noncomputable def ir_quiesce_moves_loop0:ISs:=(.cons (.expr (.call 148 (.cons (.loc 0) (.cons (.loc 8) .nil)))) (.cons (.asg 9 (.neg (.call 482 (.cons (.loc 0) (.cons (.neg (.loc 4)) (.cons (.neg (.loc 3)) (.cons (.bin .add (.loc 5) (.c (.int 1))) (.cons (.bin .sub (.loc 6) (.c (.int 1))) .nil)))))))) (.cons (.expr (.call 155 (.cons (.loc 0) .nil))) (.cons (.ite (.cmp .gt (.loc 9) (.loc 2)) (.cons (.asg 2 (.loc 9)) (.cons (.ite (.cmp .ge (.loc 9) (.loc 4)) (.cons (.ret (.loc 2)) .nil) .nil) (.cons (.asg 3 (.max2 (.loc 3) (.loc 9))) .nil))) .nil) (.cons (.asg 8 (.meth (.loc 7) "next" .nil)) .nil)))))
noncomputable def ir_quiesce_moves:ISs:=(.cons (.asg 7 (.new 464 (.cons (.attr (.loc 0) "game") (.cons (.loc 1) (.cons (.c (.int 0)) (.cons (.attr (.loc 0) "killers") (.cons (.attr (.loc 0) "history") (.cons (.loc 5) .nil)))))))) (.cons (.asg 8 (.meth (.loc 7) "next" .nil)) (.cons (.whil (.cmp .ne (.loc 8) (.c (.int 0))) ir_quiesce_moves_loop0) (.cons (.ret (.loc 2)) .nil))))
noncomputable def fn_quiesce_moves:Fn:=⟨["ctx","moves","best","alpha","beta","ply","qdepth","picker","move","value"],7,ir_quiesce_moves⟩
noncomputable def ir_search:ISs:=(.cons (.expr (.call 169 (.cons (.loc 0) (.cons (.loc 4) .nil)))) (.cons (.ite (.cmp .le (.loc 3) (.c (.int 0))) (.cons (.ret (.call 482 (.cons (.loc 0) (.cons (.loc 1) (.cons (.loc 2) (.cons (.loc 4) (.cons (.attr (.loc 0) "qdepth") .nil))))))) .nil) .nil) (.cons (.expr (.meth (.loc 0) "tick" .nil)) (.cons (.asg 6 (.attr (.loc 0) "game")) (.cons (.ite (.and (.cmp .gt (.loc 4) (.c (.int 0))) (.meth (.loc 6) "is_draw" .nil)) (.cons (.ret (.c (.int 0))) .nil) .nil) (.cons (.asg 7 (.call 92 (.cons (.loc 4) .nil))) (.cons (.asg 8 (.call 99 (.cons (.bin .add (.loc 4) (.c (.int 1))) .nil))) (.cons (.ite (.cmp .ge (.loc 1) (.loc 8)) (.cons (.ret (.loc 8)) .nil) .nil) (.cons (.ite (.cmp .le (.loc 2) (.loc 7)) (.cons (.ret (.loc 7)) .nil) .nil) (.cons (.asg 1 (.max2 (.loc 1) (.loc 7))) (.cons (.asg 2 (.min2 (.loc 2) (.loc 8))) (.cons (.asg 9 (.meth (.loc 6) "key" .nil)) (.cons (.unp [10,11] (.call 517 (.cons (.loc 0) (.cons (.loc 9) (.cons (.loc 1) (.cons (.loc 2) (.cons (.loc 3) (.cons (.loc 4) .nil)))))))) (.cons (.ite (.and (.cmp .isnot (.loc 11) (.c .none)) (.not (.loc 5))) (.cons (.ret (.loc 11)) .nil) .nil) (.cons (.ite (.and (.loc 5) (.and (.cmp .eq (.loc 10) (.c (.int 0))) (.and (.cmp .ge (.loc 3) (.c (.int 4))) (.cmp .isnot (.attr (.loc 0) "table") (.c .none))))) (.cons (.expr (.call 496 (.cons (.loc 0) (.cons (.loc 1) (.cons (.loc 2) (.cons (.bin .sub (.loc 3) (.c (.int 2))) (.cons (.loc 4) (.cons (.loc 5) .nil)))))))) (.cons (.unp [10,11] (.call 517 (.cons (.loc 0) (.cons (.loc 9) (.cons (.loc 1) (.cons (.loc 2) (.cons (.loc 3) (.cons (.loc 4) .nil)))))))) (.cons (.expr (.call 169 (.cons (.loc 0) (.cons (.loc 4) .nil)))) .nil))) .nil) (.cons (.asg 12 (.meth (.loc 6) "moves" .nil)) (.cons (.ite (.not (.loc 12)) (.cons (.ite (.meth (.loc 6) "in_check" .nil) (.cons (.ret (.call 92 (.cons (.loc 4) .nil))) .nil) .nil) (.cons (.ret (.c (.int 0))) .nil)) .nil) (.cons (.ret (.call 503 (.cons (.loc 0) (.cons (.loc 12) (.cons (.loc 10) (.cons (.loc 9) (.cons (.loc 1) (.cons (.loc 2) (.cons (.loc 3) (.cons (.loc 4) (.cons (.loc 5) .nil))))))))))) .nil))))))))))))))))))
noncomputable def fn_search:Fn:=⟨["ctx","alpha","beta","depth","ply","is_pv","game","low","high","key","table_move","value","moves"],6,ir_search⟩
noncomputable def ir_search_moves_loop0:ISs:=(.cons (.asg 18 (.meth (.loc 9) "is_noisy" (.cons (.loc 17) .nil))) (.cons (.expr (.call 148 (.cons (.loc 0) (.cons (.loc 17) .nil)))) (.cons (.asg 19 (.call 510 (.cons (.loc 0) (.cons (.loc 4) (.cons (.loc 5) (.cons (.loc 6) (.cons (.loc 7) (.cons (.loc 8) (.cons (.loc 16) .nil))))))))) (.cons (.expr (.call 155 (.cons (.loc 0) .nil))) (.cons (.asg 16 (.c (.bool false))) (.cons (.ite (.cmp .gt (.loc 19) (.loc 13)) (.cons (.asg 13 (.loc 19)) .nil) .nil) (.cons (.ite (.cmp .gt (.loc 19) (.loc 4)) (.cons (.asg 14 (.loc 17)) (.cons (.ite (.loc 8) (.cons (.expr (.call 176 (.cons (.loc 0) (.cons (.loc 7) (.cons (.loc 17) .nil))))) .nil) .nil) (.cons (.ite (.cmp .ge (.loc 19) (.loc 5)) (.cons (.ite (.and (.not (.loc 18)) (.and (.cmp .isnot (.attr (.loc 0) "history") (.c .none)) (.cmp .isnot (.attr (.loc 0) "killers") (.c .none)))) (.cons (.expr (.call 400 (.cons (.attr (.loc 0) "history") (.cons (.attr (.loc 0) "killers") (.cons (.loc 10) (.cons (.loc 7) (.cons (.loc 6) (.cons (.loc 17) (.cons (.loc 15) .nil))))))))) .nil) .nil) (.cons .brk .nil)) .nil) (.cons (.asg 4 (.loc 19)) .nil)))) .nil) (.cons (.ite (.not (.loc 18)) (.cons (.expr (.meth (.loc 15) "append" (.cons (.loc 17) .nil))) .nil) .nil) (.cons (.asg 17 (.meth (.loc 11) "next" .nil)) .nil)))))))))
noncomputable def ir_search_moves:ISs:=(.cons (.asg 9 (.attr (.loc 0) "game")) (.cons (.ite (.cmp .isnot (.attr (.loc 0) "killers") (.c .none)) (.cons (.expr (.meth (.attr (.loc 0) "killers") "clear" (.cons (.bin .add (.loc 7) (.c (.int 2))) .nil))) .nil) .nil) (.cons (.asg 10 (.meth (.loc 9) "side" .nil)) (.cons (.asg 11 (.new 464 (.cons (.loc 9) (.cons (.loc 1) (.cons (.loc 2) (.cons (.attr (.loc 0) "killers") (.cons (.attr (.loc 0) "history") (.cons (.loc 7) .nil)))))))) (.cons (.asg 12 (.loc 4)) (.cons (.asg 13 (.neg (.c (.int 32001)))) (.cons (.asg 14 (.c (.int 0))) (.cons (.asg 15 (.list .nil)) (.cons (.asg 16 (.c (.bool true))) (.cons (.asg 17 (.meth (.loc 11) "next" .nil)) (.cons (.whil (.cmp .ne (.loc 17) (.c (.int 0))) ir_search_moves_loop0) (.cons (.expr (.call 524 (.cons (.loc 0) (.cons (.loc 3) (.cons (.loc 14) (.cons (.loc 13) (.cons (.loc 12) (.cons (.loc 5) (.cons (.loc 6) (.cons (.loc 7) .nil)))))))))) (.cons (.ret (.loc 13)) .nil)))))))))))))
noncomputable def fn_search_moves:Fn:=⟨["ctx","moves","table_move","key","alpha","beta","depth","ply","is_pv","game","side","picker","start","best","best_move","quiets","is_first","move","is_noisy","value"],9,ir_search_moves⟩
noncomputable def ir_search_child:ISs:=(.cons (.ite (.loc 6) (.cons (.ret (.neg (.call 496 (.cons (.loc 0) (.cons (.neg (.loc 2)) (.cons (.neg (.loc 1)) (.cons (.bin .sub (.loc 3) (.c (.int 1))) (.cons (.bin .add (.loc 4) (.c (.int 1))) (.cons (.loc 5) .nil))))))))) .nil) .nil) (.cons (.asg 7 (.neg (.call 496 (.cons (.loc 0) (.cons (.bin .sub (.neg (.loc 1)) (.c (.int 1))) (.cons (.neg (.loc 1)) (.cons (.bin .sub (.loc 3) (.c (.int 1))) (.cons (.bin .add (.loc 4) (.c (.int 1))) (.cons (.c (.bool false)) .nil))))))))) (.cons (.ite (.and (.cmp .lt (.loc 1) (.loc 7)) (.cmp .lt (.loc 7) (.loc 2))) (.cons (.asg 7 (.neg (.call 496 (.cons (.loc 0) (.cons (.neg (.loc 2)) (.cons (.neg (.loc 1)) (.cons (.bin .sub (.loc 3) (.c (.int 1))) (.cons (.bin .add (.loc 4) (.c (.int 1))) (.cons (.loc 5) .nil))))))))) .nil) .nil) (.cons (.ret (.loc 7)) .nil))))
noncomputable def fn_search_child:Fn:=⟨["ctx","alpha","beta","depth","ply","is_pv","is_first","value"],7,ir_search_child⟩
noncomputable def ir_look_up:ISs:=(.cons (.ite (.cmp .is (.attr (.loc 0) "table") (.c .none)) (.cons (.ret (.tup (.cons (.c (.int 0)) (.cons (.c .none) .nil)))) .nil) .nil) (.cons (.asg 6 (.meth (.attr (.loc 0) "table") "probe" (.cons (.loc 1) .nil))) (.cons (.ite (.cmp .is (.loc 6) (.c .none)) (.cons (.ret (.tup (.cons (.c (.int 0)) (.cons (.c .none) .nil)))) .nil) .nil) (.cons (.asg 7 (.call 113 (.cons (.idx (.loc 6) (.c (.int 1))) (.cons (.loc 5) .nil)))) (.cons (.ite (.call 295 (.cons (.loc 7) (.cons (.idx (.loc 6) (.c (.int 2))) (.cons (.idx (.loc 6) (.c (.int 3))) (.cons (.loc 4) (.cons (.attr (.loc 0) "is_exact") (.cons (.loc 2) (.cons (.loc 3) .nil)))))))) (.cons (.ret (.tup (.cons (.idx (.loc 6) (.c (.int 0))) (.cons (.loc 7) .nil)))) .nil) .nil) (.cons (.ret (.tup (.cons (.idx (.loc 6) (.c (.int 0))) (.cons (.c .none) .nil)))) .nil))))))
noncomputable def fn_look_up:Fn:=⟨["ctx","key","alpha","beta","depth","ply","found","value"],6,ir_look_up⟩
noncomputable def ir_keep_value:ISs:=(.cons (.ite (.cmp .is (.attr (.loc 0) "table") (.c .none)) (.cons .retN .nil) .nil) (.cons (.asg 8 (.c (.int 3))) (.cons (.ite (.cmp .ge (.loc 3) (.loc 5)) (.cons (.asg 8 (.c (.int 2))) .nil) (.cons (.ite (.cmp .le (.loc 3) (.loc 4)) (.cons (.asg 8 (.c (.int 1))) .nil) .nil) .nil)) (.cons (.expr (.meth (.attr (.loc 0) "table") "save" (.cons (.loc 1) (.cons (.loc 2) (.cons (.call 106 (.cons (.loc 3) (.cons (.loc 7) .nil))) (.cons (.loc 6) (.cons (.loc 8) .nil))))))) .nil))))
noncomputable def fn_keep_value:Fn:=⟨["ctx","key","move","best","start","beta","depth","ply","bound"],8,ir_keep_value⟩
noncomputable def ir_root_value:ISs:=(.cons (.ret (.call 496 (.cons (.loc 0) (.cons (.neg (.c (.int 32001))) (.cons (.c (.int 32001)) (.cons (.loc 1) (.cons (.c (.int 0)) (.cons (.c (.bool true)) .nil)))))))) .nil)
noncomputable def fn_root_value:Fn:=⟨["ctx","depth"],2,ir_root_value⟩
noncomputable def ir_Report_init:ISs:=(.cons (.setA (.loc 0) "depth" (.loc 1)) (.cons (.setA (.loc 0) "value" (.loc 2)) (.cons (.setA (.loc 0) "line" (.loc 3)) (.cons (.setA (.loc 0) "nodes" (.loc 4)) .nil))))
noncomputable def fn_Report_init:Fn:=⟨["self","depth","value","line","nodes"],5,ir_Report_init⟩
noncomputable def ir_lower_edge:ISs:=(.cons (.ite (.cmp .gt (.loc 1) (.c (.int 1000))) (.cons (.ret (.neg (.c (.int 32001)))) .nil) .nil) (.cons (.ret (.max2 (.bin .sub (.loc 0) (.loc 1)) (.neg (.c (.int 32001))))) .nil))
noncomputable def fn_lower_edge:Fn:=⟨["value","delta"],2,ir_lower_edge⟩
noncomputable def ir_upper_edge:ISs:=(.cons (.ite (.cmp .gt (.loc 1) (.c (.int 1000))) (.cons (.ret (.c (.int 32001))) .nil) .nil) (.cons (.ret (.min2 (.bin .add (.loc 0) (.loc 1)) (.c (.int 32001)))) .nil))
noncomputable def fn_upper_edge:Fn:=⟨["value","delta"],2,ir_upper_edge⟩
noncomputable def ir_aspirate_loop0:ISs:=(.cons (.ite (.cmp .le (.loc 6) (.loc 4)) (.cons (.asg 5 (.bin .fdiv (.bin .add (.loc 4) (.loc 5)) (.c (.int 2)))) (.cons (.asg 4 (.call 559 (.cons (.loc 6) (.cons (.loc 3) .nil)))) .nil)) (.cons (.asg 5 (.call 566 (.cons (.loc 6) (.cons (.loc 3) .nil)))) .nil)) (.cons (.augL 3 .add (.bin .add (.bin .fdiv (.loc 3) (.c (.int 4))) (.c (.int 5)))) (.cons (.asg 6 (.call 496 (.cons (.loc 0) (.cons (.loc 4) (.cons (.loc 5) (.cons (.loc 1) (.cons (.c (.int 0)) (.cons (.c (.bool true)) .nil)))))))) .nil)))
noncomputable def ir_aspirate:ISs:=(.cons (.asg 2 (.max2 (.neg (.c (.int 32000))) (.min2 (.c (.int 32000)) (.loc 2)))) (.cons (.asg 3 (.max2 (.c (.int 1)) (.loc 3))) (.cons (.asg 4 (.call 559 (.cons (.loc 2) (.cons (.loc 3) .nil)))) (.cons (.asg 5 (.call 566 (.cons (.loc 2) (.cons (.loc 3) .nil)))) (.cons (.asg 6 (.call 496 (.cons (.loc 0) (.cons (.loc 4) (.cons (.loc 5) (.cons (.loc 1) (.cons (.c (.int 0)) (.cons (.c (.bool true)) .nil)))))))) (.cons (.whil (.or (.cmp .le (.loc 6) (.loc 4)) (.cmp .ge (.loc 6) (.loc 5))) ir_aspirate_loop0) (.cons (.ret (.loc 6)) .nil)))))))
noncomputable def fn_aspirate:Fn:=⟨["ctx","depth","guess","delta","alpha","beta","value"],4,ir_aspirate⟩
noncomputable def ir_deepest:ISs:=(.cons (.ret (.bin .sub (.bin .sub (.c (.int 246)) (.c (.int 1))) (.max2 (.c (.int 0)) (.attr (.loc 0) "qdepth")))) .nil)
noncomputable def fn_deepest:Fn:=⟨["ctx"],1,ir_deepest⟩
noncomputable def ir_iterate_loop0:ISs:=(.cons (.ite (.not (.loc 3)) (.cons (.asg 6 (.call 531 (.cons (.loc 0) (.cons (.loc 5) .nil)))) .nil) (.cons (.asg 6 (.call 573 (.cons (.loc 0) (.cons (.loc 5) (.cons (.attr (.idx (.loc 3) (.neg (.c (.int 1)))) "value") (.cons (.loc 2) .nil)))))) .nil)) (.cons (.expr (.meth (.loc 3) "append" (.cons (.new 548 (.cons (.loc 5) (.cons (.loc 6) (.cons (.call 183 (.cons (.loc 0) (.cons (.c (.int 0)) .nil))) (.cons (.attr (.loc 0) "nodes") .nil))))) .nil))) (.cons (.augL 5 .add (.c (.int 1))) .nil)))
noncomputable def ir_iterate_try0:ISs:=(.cons (.whil (.cmp .le (.loc 5) (.loc 4)) ir_iterate_loop0) .nil)
noncomputable def ir_iterate_exc0:ISs:=(.cons (.expr (.call 162 (.cons (.loc 0) .nil))) .nil)
noncomputable def ir_iterate:ISs:=(.cons (.ite (.cmp .isnot (.attr (.loc 0) "table") (.c .none)) (.cons (.expr (.meth (.attr (.loc 0) "table") "new_search" .nil)) .nil) .nil) (.cons (.asg 3 (.list .nil)) (.cons (.asg 4 (.min2 (.loc 1) (.call 580 (.cons (.loc 0) .nil)))) (.cons (.asg 5 (.c (.int 1))) (.cons (.tryStop ir_iterate_try0 none ir_iterate_exc0) (.cons (.ret (.loc 3)) .nil))))))
noncomputable def fn_iterate:Fn:=⟨["ctx","max_depth","delta","reports","top","depth","value"],3,ir_iterate⟩
noncomputable def ir_mtdf_loop0:ISs:=(.cons (.asg 6 (.max2 (.loc 3) (.bin .add (.loc 4) (.c (.int 1))))) (.cons (.asg 3 (.call 496 (.cons (.loc 0) (.cons (.bin .sub (.loc 6) (.c (.int 1))) (.cons (.loc 6) (.cons (.loc 1) (.cons (.c (.int 0)) (.cons (.c (.bool false)) .nil)))))))) (.cons (.ite (.cmp .lt (.loc 3) (.loc 6)) (.cons (.asg 5 (.loc 3)) .nil) (.cons (.asg 4 (.loc 3)) .nil)) .nil)))
noncomputable def ir_mtdf:ISs:=(.cons (.asg 3 (.max2 (.neg (.c (.int 32000))) (.min2 (.c (.int 32000)) (.loc 2)))) (.cons (.asg 4 (.neg (.c (.int 32001)))) (.cons (.asg 5 (.c (.int 32001))) (.cons (.whil (.cmp .lt (.loc 4) (.loc 5)) ir_mtdf_loop0) (.cons (.ret (.loc 3)) .nil)))))
noncomputable def fn_mtdf:Fn:=⟨["ctx","depth","guess","value","low","high","beta"],3,ir_mtdf⟩
noncomputable def ir_TreeGame_init:ISs:=(.cons (.setA (.loc 0) "children" (.loc 1)) (.cons (.setA (.loc 0) "values" (.loc 2)) (.cons (.setA (.loc 0) "checks" (.loc 3)) (.cons (.setA (.loc 0) "draws" (.loc 4)) (.cons (.setA (.loc 0) "noisy_rows" (.loc 5)) (.cons (.setA (.loc 0) "gain_rows" (.loc 6)) (.cons (.setA (.loc 0) "path" (.list (.cons (.c (.int 0)) .nil))) .nil)))))))
noncomputable def fn_TreeGame_init:Fn:=⟨["self","children","values","checks","draws","noisy","gains"],7,ir_TreeGame_init⟩
noncomputable def ir_TreeGame_moves:ISs:=(.cons (.ret (.listR (.c (.int 1)) (.bin .add (.len (.idx (.attr (.loc 0) "children") (.idx (.attr (.loc 0) "path") (.neg (.c (.int 1)))))) (.c (.int 1))))) .nil)
noncomputable def fn_TreeGame_moves:Fn:=⟨["self"],1,ir_TreeGame_moves⟩
noncomputable def ir_TreeGame_noisy:ISs:=(.cons (.ret (.compIf (.loc 0) (.over (.meth (.loc 0) "moves" .nil)) (.meth (.loc 1) "is_noisy" (.cons (.loc 0) .nil)))) .nil)
noncomputable def fn_TreeGame_noisy:Fn:=⟨["self"],1,ir_TreeGame_noisy⟩
noncomputable def ir_TreeGame_make:ISs:=(.cons (.asg 2 (.idx (.attr (.loc 0) "children") (.idx (.attr (.loc 0) "path") (.neg (.c (.int 1)))))) (.cons (.ite (.or (.cmp .lt (.loc 1) (.c (.int 1))) (.cmp .gt (.loc 1) (.len (.loc 2)))) (.cons .bad .nil) .nil) (.cons (.expr (.meth (.attr (.loc 0) "path") "append" (.cons (.idx (.loc 2) (.bin .sub (.loc 1) (.c (.int 1)))) .nil))) .nil)))
noncomputable def fn_TreeGame_make:Fn:=⟨["self","move","kids"],2,ir_TreeGame_make⟩
noncomputable def ir_TreeGame_undo:ISs:=(.cons (.ite (.cmp .eq (.len (.attr (.loc 0) "path")) (.c (.int 1))) (.cons .bad .nil) .nil) (.cons (.expr (.meth (.attr (.loc 0) "path") "pop" .nil)) .nil))
noncomputable def fn_TreeGame_undo:Fn:=⟨["self"],1,ir_TreeGame_undo⟩
noncomputable def ir_TreeGame_value:ISs:=(.cons (.ret (.idx (.attr (.loc 0) "values") (.idx (.attr (.loc 0) "path") (.neg (.c (.int 1)))))) .nil)
noncomputable def fn_TreeGame_value:Fn:=⟨["self"],1,ir_TreeGame_value⟩
noncomputable def ir_TreeGame_key:ISs:=(.cons (.ret (.bin .add (.idx (.attr (.loc 0) "path") (.neg (.c (.int 1)))) (.c (.int 1)))) .nil)
noncomputable def fn_TreeGame_key:Fn:=⟨["self"],1,ir_TreeGame_key⟩
noncomputable def ir_TreeGame_in_check:ISs:=(.cons (.ret (.idx (.attr (.loc 0) "checks") (.idx (.attr (.loc 0) "path") (.neg (.c (.int 1)))))) .nil)
noncomputable def fn_TreeGame_in_check:Fn:=⟨["self"],1,ir_TreeGame_in_check⟩
noncomputable def ir_TreeGame_is_draw:ISs:=(.cons (.ret (.idx (.attr (.loc 0) "draws") (.idx (.attr (.loc 0) "path") (.neg (.c (.int 1)))))) .nil)
noncomputable def fn_TreeGame_is_draw:Fn:=⟨["self"],1,ir_TreeGame_is_draw⟩
noncomputable def ir_TreeGame_is_noisy:ISs:=(.cons (.ret (.idx (.idx (.attr (.loc 0) "noisy_rows") (.idx (.attr (.loc 0) "path") (.neg (.c (.int 1))))) (.bin .sub (.loc 1) (.c (.int 1))))) .nil)
noncomputable def fn_TreeGame_is_noisy:Fn:=⟨["self","move"],2,ir_TreeGame_is_noisy⟩
noncomputable def ir_TreeGame_gain:ISs:=(.cons (.ret (.idx (.idx (.attr (.loc 0) "gain_rows") (.idx (.attr (.loc 0) "path") (.neg (.c (.int 1))))) (.bin .sub (.loc 1) (.c (.int 1))))) .nil)
noncomputable def fn_TreeGame_gain:Fn:=⟨["self","move"],2,ir_TreeGame_gain⟩
noncomputable def ir_TreeGame_side:ISs:=(.cons (.ret (.bin .band (.bin .sub (.len (.attr (.loc 0) "path")) (.c (.int 1))) (.c (.int 1)))) .nil)
noncomputable def fn_TreeGame_side:Fn:=⟨["self"],1,ir_TreeGame_side⟩
noncomputable def ir_law_card:ISs:=(.cons (.augK (.loc 0) "turn" .add (.c (.int 1))) (.cons (.ite (.cmp .ne (.key (.loc 0) "pile") (.list .nil)) (.cons (.ret (.bin .mod (.meth (.key (.loc 0) "pile") "pop" .nil) (.loc 1))) .nil) .nil) (.cons (.ret (.bin .mod (.bin .fdiv (.bin .mul (.key (.loc 0) "turn") (.bin .add (.key (.loc 0) "turn") (.c (.int 7)))) (.c (.int 2))) (.loc 1))) .nil)))
noncomputable def fn_law_card:Fn:=⟨["deck","bound"],2,ir_law_card⟩
noncomputable def ir_law_deal_loop0:ISs:=(.cons (.asg 4 (.ife (.cmp .eq (.loc 3) (.c (.int 0))) (.bin .add (.c (.int 1)) (.call 697 (.cons (.loc 0) (.cons (.c (.int 2)) .nil)))) (.call 697 (.cons (.loc 0) (.cons (.c (.int 3)) .nil))))) (.cons (.asg 5 (.list .nil)) (.cons (.ite (.cmp .lt (.loc 3) (.bin .sub (.loc 1) (.c (.int 1)))) (.cons (.asg 5 (.comp (.bin .add (.bin .add (.loc 4) (.c (.int 1))) (.call 697 (.cons (.loc 1) (.cons (.bin .sub (.bin .sub (.loc 2) (.c (.int 1))) (.loc 4)) .nil)))) (.range (.c (.int 0)) (.loc 4)))) .nil) .nil) (.cons (.asg 6 (.idx (.list (.cons (.c (.int 100)) (.cons (.c (.int 1200)) (.cons (.c (.int 20000)) .nil)))) (.call 697 (.cons (.loc 0) (.cons (.c (.int 3)) .nil))))) (.cons (.asg 7 (.bin .sub (.call 697 (.cons (.loc 0) (.cons (.bin .add (.bin .mul (.c (.int 2)) (.loc 6)) (.c (.int 1))) .nil))) (.loc 6))) (.cons (.asg 8 (.comp (.cmp .eq (.call 697 (.cons (.loc 1) (.cons (.c (.int 2)) .nil))) (.c (.int 1))) (.over (.loc 5)))) (.cons (.asg 9 (.comp (.bin .sub (.call 697 (.cons (.loc 1) (.cons (.c (.int 5)) .nil))) (.c (.int 2))) (.over (.loc 5)))) (.cons (.expr (.meth (.loc 2) "append" (.cons (.tup (.cons (.loc 5) (.cons (.loc 7) (.cons (.cmp .eq (.call 697 (.cons (.loc 0) (.cons (.c (.int 4)) .nil))) (.c (.int 3))) (.cons (.cmp .eq (.call 697 (.cons (.loc 0) (.cons (.c (.int 6)) .nil))) (.c (.int 5))) (.cons (.loc 8) (.cons (.loc 9) .nil))))))) .nil))) .nil))))))))
noncomputable def ir_law_deal:ISs:=(.cons (.asg 1 (.bin .add (.c (.int 3)) (.call 697 (.cons (.loc 0) (.cons (.c (.int 4)) .nil))))) (.cons (.asg 2 (.list .nil)) (.cons (.for_ 3 (.range (.c (.int 0)) (.loc 1)) ir_law_deal_loop0) (.cons (.ret (.loc 2)) .nil))))
noncomputable def fn_law_deal:Fn:=⟨["deck","count","places","here","many","kids","size","value","marks","gains"],1,ir_law_deal⟩
noncomputable def ir_law_full_loop0:ISs:=(.cons (.ite (.cmp .gt (.loc 3) (.c (.int 0))) (.cons (.expr (.meth (.loc 11) "append" (.cons (.neg (.call 709 (.cons (.loc 0) (.cons (.idx (.loc 5) (.loc 12)) (.cons (.bin .add (.loc 2) (.c (.int 1))) (.cons (.bin .sub (.loc 3) (.c (.int 1))) (.cons (.loc 4) .nil))))))) .nil))) .nil) (.cons (.ite (.or (.loc 7) (.idx (.loc 9) (.loc 12))) (.cons (.expr (.meth (.loc 11) "append" (.cons (.neg (.call 709 (.cons (.loc 0) (.cons (.idx (.loc 5) (.loc 12)) (.cons (.bin .add (.loc 2) (.c (.int 1))) (.cons (.c (.int 0)) (.cons (.bin .sub (.loc 4) (.c (.int 1))) .nil))))))) .nil))) .nil) .nil) .nil)) .nil)
noncomputable def ir_law_full:ISs:=(.cons (.unp [5,6,7,8,9,10] (.idx (.loc 0) (.loc 1))) (.cons (.ite (.and (.cmp .gt (.loc 2) (.c (.int 0))) (.loc 8)) (.cons (.ret (.c (.int 0))) .nil) .nil) (.cons (.ite (.and (.cmp .eq (.loc 5) (.list .nil)) (.or (.cmp .gt (.loc 3) (.c (.int 0))) (.loc 7))) (.cons (.ret (.ife (.loc 7) (.bin .sub (.loc 2) (.c (.int 32000))) (.c (.int 0)))) .nil) .nil) (.cons (.ite (.and (.cmp .eq (.loc 3) (.c (.int 0))) (.cmp .eq (.loc 4) (.c (.int 0)))) (.cons (.ret (.loc 6)) .nil) .nil) (.cons (.asg 11 (.list .nil)) (.cons (.for_ 12 (.range (.c (.int 0)) (.len (.loc 5))) ir_law_full_loop0) (.cons (.ite (.and (.cmp .eq (.loc 3) (.c (.int 0))) (.not (.loc 7))) (.cons (.expr (.meth (.loc 11) "append" (.cons (.loc 6) .nil))) .nil) .nil) (.cons (.ret (.maxl (.loc 11))) .nil))))))))
noncomputable def fn_law_full:Fn:=⟨["places","here","ply","depth","calm","kids","value","is_check","is_drawn","marks","gains","answers","spot"],5,ir_law_full⟩
noncomputable def ir_law_leads_loop0:ISs:=(.cons (.asg 7 (.idx (.idx (.loc 0) (.loc 5)) (.c (.int 0)))) (.cons (.ite (.or (.cmp .ge (.loc 6) (.loc 2)) (.not (.cmp2 .le .le (.c (.int 1)) (.idx (.loc 1) (.loc 6)) (.len (.loc 7))))) (.cons (.ret (.c (.bool false))) .nil) .nil) (.cons (.ite (.and (.cmp .gt (.loc 6) (.c (.int 0))) (.idx (.idx (.loc 0) (.loc 5)) (.c (.int 3)))) (.cons (.ret (.c (.bool false))) .nil) .nil) (.cons (.asg 5 (.idx (.loc 7) (.bin .sub (.idx (.loc 1) (.loc 6)) (.c (.int 1))))) (.cons (.asg 4 (.neg (.loc 4))) (.cons (.ite (.cmp .ne (.call 709 (.cons (.loc 0) (.cons (.loc 5) (.cons (.bin .add (.loc 6) (.c (.int 1))) (.cons (.bin .sub (.bin .sub (.loc 2) (.loc 6)) (.c (.int 1))) (.cons (.loc 3) .nil)))))) (.loc 4)) (.cons (.ret (.c (.bool false))) .nil) .nil) .nil))))))
noncomputable def ir_law_leads:ISs:=(.cons (.asg 5 (.c (.int 0))) (.cons (.for_ 6 (.range (.c (.int 0)) (.len (.loc 1))) ir_law_leads_loop0) (.cons (.ret (.or (.cmp .eq (.len (.loc 1)) (.loc 2)) (.or (.cmp .eq (.idx (.idx (.loc 0) (.loc 5)) (.c (.int 0))) (.list .nil)) (.and (.cmp .ne (.loc 1) (.list .nil)) (.idx (.idx (.loc 0) (.loc 5)) (.c (.int 3))))))) .nil)))
noncomputable def fn_law_leads:Fn:=⟨["places","row","depth","calm","value","here","turn","kids"],5,ir_law_leads⟩
noncomputable def ir_law_game:ISs:=(.cons (.asg 1 (.comp (.comp (.idx (.loc 0) (.loc 1)) (.over (.loc 1))) (.range (.c (.int 0)) (.c (.int 6))))) (.cons (.ret (.new 686 (.cons (.idx (.loc 1) (.c (.int 0))) (.cons (.idx (.loc 1) (.c (.int 1))) (.cons (.idx (.loc 1) (.c (.int 2))) (.cons (.idx (.loc 1) (.c (.int 3))) (.cons (.idx (.loc 1) (.c (.int 4))) (.cons (.idx (.loc 1) (.c (.int 5))) .nil)))))))) .nil))
noncomputable def fn_law_game:Fn:=⟨["places","columns"],1,ir_law_game⟩
noncomputable def ir_law_context:ISs:=(.cons (.asg 4 (.idx (.list (.cons (.c .none) (.cons (.new 284 (.cons (.c (.int 1)) (.cons (.c (.int 1)) .nil))) (.cons (.new 284 (.cons (.c (.int 2)) (.cons (.c (.int 2)) .nil))) .nil)))) (.bin .fdiv (.loc 1) (.c (.int 2))))) (.cons (.ite (.cmp .eq (.bin .mod (.loc 1) (.c (.int 2))) (.c (.int 1))) (.cons (.ret (.new 137 (.cons (.call 721 (.cons (.loc 0) .nil)) (.cons (.loc 4) (.cons (.new 389 (.cons (.c (.int 3)) .nil)) (.cons (.new 347 (.cons (.c (.int 400)) .nil)) (.cons (.loc 2) (.cons (.c (.bool true)) (.cons (.loc 3) .nil))))))))) .nil) .nil) (.cons (.ret (.new 137 (.cons (.call 721 (.cons (.loc 0) .nil)) (.cons (.loc 4) (.cons (.c .none) (.cons (.c .none) (.cons (.loc 2) (.cons (.c (.bool true)) (.cons (.loc 3) .nil))))))))) .nil)))
noncomputable def fn_law_context:Fn:=⟨["places","tools","calm","most","rows"],4,ir_law_context⟩
noncomputable def ir_law_at_root:ISs:=(.cons (.ret (.and (.cmp .eq (.attr (.loc 0) "made") (.c (.int 0))) (.and (.cmp .eq (.meth (.attr (.loc 0) "game") "key" .nil) (.c (.int 1))) (.cmp .eq (.meth (.attr (.loc 0) "game") "moves" .nil) (.listR (.c (.int 1)) (.bin .add (.len (.idx (.idx (.loc 1) (.c (.int 0))) (.c (.int 0)))) (.c (.int 1)))))))) .nil)
noncomputable def fn_law_at_root:Fn:=⟨["ctx","places"],2,ir_law_at_root⟩
noncomputable def ir_law_reports:ISs:=(.cons (.ret (.comp (.tup (.cons (.attr (.loc 0) "depth") (.cons (.attr (.loc 0) "value") (.cons (.attr (.loc 0) "line") (.cons (.attr (.loc 0) "nodes") .nil))))) (.over (.call 587 (.cons (.loc 0) (.cons (.loc 1) (.cons (.loc 2) .nil))))))) .nil)
noncomputable def fn_law_reports:Fn:=⟨["ctx","depth","delta"],3,ir_law_reports⟩
noncomputable def ir_law_guess:ISs:=(.cons (.asg 2 (.bin .sub (.bin .add (.loc 1) (.call 697 (.cons (.loc 0) (.cons (.c (.int 9)) .nil)))) (.c (.int 4)))) (.cons (.asg 3 (.bin .sub (.call 697 (.cons (.loc 0) (.cons (.c (.int 50001)) .nil))) (.c (.int 25000)))) (.cons (.ret (.idx (.list (.cons (.loc 1) (.cons (.loc 2) (.cons (.loc 3) (.cons (.neg (.c (.int 32000))) (.cons (.c (.int 32000)) (.cons (.c (.int 0)) (.cons (.c (.int (10 ^ 99))) (.cons (.neg (.c (.int (10 ^ 99)))) .nil))))))))) (.call 697 (.cons (.loc 0) (.cons (.c (.int 8)) .nil))))) .nil)))
noncomputable def fn_law_guess:Fn:=⟨["deck","value","near","far"],2,ir_law_guess⟩
noncomputable def ir_law_try0:ISs:=(.cons (.asg 14 (.call 747 (.cons (.loc 1) (.cons (.idx (.loc 7) (.neg (.c (.int 1)))) .nil)))) (.cons (.asg 10 (.ife (.cmp .eq (.bin .mod (.loc 5) (.c (.int 2))) (.c (.int 0))) (.call 573 (.cons (.loc 8) (.cons (.loc 3) (.cons (.loc 14) (.cons (.c (.int 1)) .nil))))) (.call 594 (.cons (.loc 8) (.cons (.loc 3) (.cons (.loc 14) .nil)))))) (.cons (.ite (.or (.cmp .ne (.loc 10) (.idx (.loc 7) (.neg (.c (.int 1))))) (.cmp .gt (.attr (.loc 8) "nodes") (.loc 11))) (.cons (.ret (.c (.bool false))) .nil) .nil) .nil)))
noncomputable def ir_law_exc0:ISs:=(.cons (.ite (.cmp .ne (.attr (.loc 16) "nodes") (.loc 11)) (.cons (.ret (.c (.bool false))) .nil) .nil) (.cons (.expr (.call 162 (.cons (.loc 8) .nil))) .nil))
noncomputable def ir_law_loop0:ISs:=(.cons (.asg 13 (.bin .add (.c (.int 1)) (.call 697 (.cons (.loc 1) (.cons (.loc 3) .nil))))) (.cons (.asg 14 (.call 747 (.cons (.loc 1) (.cons (.idx (.loc 7) (.bin .sub (.loc 13) (.c (.int 1)))) .nil)))) (.cons (.asg 15 (.idx (.list (.cons (.c (.int 1)) (.cons (.c (.int 40)) (.cons (.neg (.c (.int 3))) (.cons (.c (.int 999)) (.cons (.c (.int 1001)) (.cons (.c (.int (10 ^ 80))) .nil))))))) (.call 697 (.cons (.loc 1) (.cons (.c (.int 6)) .nil))))) (.cons (.ite (.or (.cmp .ne (.call 573 (.cons (.loc 8) (.cons (.loc 13) (.cons (.loc 14) (.cons (.loc 15) .nil))))) (.idx (.loc 7) (.bin .sub (.loc 13) (.c (.int 1))))) (.cmp .ne (.call 594 (.cons (.loc 8) (.cons (.loc 13) (.cons (.loc 14) .nil)))) (.idx (.loc 7) (.bin .sub (.loc 13) (.c (.int 1)))))) (.cons (.ret (.c (.bool false))) .nil) .nil) (.cons (.ite (.not (.call 735 (.cons (.loc 8) (.cons (.loc 2) .nil)))) (.cons (.ret (.c (.bool false))) .nil) .nil) .nil)))))
noncomputable def ir_law_loop1:ISs:=(.cons (.ite (.or (.not (.call 716 (.cons (.loc 2) (.cons (.idx (.loc 10) (.c (.int 2))) (.cons (.idx (.loc 10) (.c (.int 0))) (.cons (.loc 4) (.cons (.idx (.loc 10) (.c (.int 1))) .nil))))))) (.not (.call 735 (.cons (.loc 8) (.cons (.loc 2) .nil))))) (.cons (.ret (.c (.bool false))) .nil) .nil) .nil)
noncomputable def ir_law:ISs:=(.cons (.asg 1 (.deck "pile" "turn" (.rev (.upto (.loc 0) 60)) (.c (.int 0)))) (.cons (.asg 2 (.call 702 (.cons (.loc 1) .nil))) (.cons (.asg 3 (.bin .add (.c (.int 1)) (.call 697 (.cons (.loc 1) (.cons (.c (.int 3)) .nil))))) (.cons (.asg 4 (.call 697 (.cons (.loc 1) (.cons (.bin .sub (.c (.int 4)) (.loc 3)) .nil)))) (.cons (.asg 5 (.call 697 (.cons (.loc 1) (.cons (.c (.int 6)) .nil)))) (.cons (.asg 6 (.idx (.list (.cons (.c (.int 1)) (.cons (.c (.int 16)) (.cons (.neg (.c (.int 5))) (.cons (.c (.int 300)) (.cons (.c (.int 5000)) (.cons (.c (.int (10 ^ 60))) .nil))))))) (.call 697 (.cons (.loc 1) (.cons (.c (.int 6)) .nil))))) (.cons (.asg 7 (.comp (.call 709 (.cons (.loc 3) (.cons (.c (.int 0)) (.cons (.c (.int 0)) (.cons (.loc 0) (.cons (.loc 5) .nil)))))) (.range (.c (.int 1)) (.bin .add (.loc 3) (.c (.int 1)))))) (.cons (.asg 8 (.call 728 (.cons (.loc 2) (.cons (.loc 5) (.cons (.loc 4) (.cons (.c (.int 0)) .nil)))))) (.cons (.asg 9 (.call 740 (.cons (.loc 8) (.cons (.loc 3) (.cons (.loc 6) .nil))))) (.cons (.ite (.cmp .ne (.comp (.tup (.cons (.idx (.loc 0) (.c (.int 0))) (.cons (.idx (.loc 0) (.c (.int 1))) .nil))) (.over (.loc 9))) (.comp (.tup (.cons (.bin .add (.loc 0) (.c (.int 1))) (.cons (.idx (.loc 8) (.loc 0)) .nil))) (.range (.c (.int 0)) (.loc 3)))) (.cons (.ret (.c (.bool false))) .nil) .nil) (.cons (.for_ 10 (.over (.loc 9)) ir_law_loop1) (.cons (.asg 11 (.bin .add (.c (.int 1)) (.call 697 (.cons (.loc 1) (.cons (.bin .add (.idx (.idx (.loc 9) (.neg (.c (.int 1)))) (.c (.int 3))) (.c (.int 1))) .nil))))) (.cons (.asg 8 (.call 728 (.cons (.loc 2) (.cons (.loc 5) (.cons (.loc 4) (.cons (.loc 11) .nil)))))) (.cons (.ite (.or (.cmp .ne (.call 740 (.cons (.loc 8) (.cons (.loc 3) (.cons (.loc 6) .nil)))) (.compIf (.loc 0) (.over (.loc 9)) (.cmp .le (.idx (.loc 0) (.c (.int 3))) (.loc 12)))) (.not (.call 735 (.cons (.loc 8) (.cons (.loc 2) .nil))))) (.cons (.ret (.c (.bool false))) .nil) .nil) (.cons (.asg 8 (.call 728 (.cons (.loc 2) (.cons (.loc 5) (.cons (.loc 4) (.cons (.c (.int 0)) .nil)))))) (.cons (.for_ 12 (.range (.c (.int 0)) (.c (.int 2))) ir_law_loop0) (.cons (.asg 11 (.bin .add (.c (.int 1)) (.call 697 (.cons (.loc 1) (.cons (.c (.int 20)) .nil))))) (.cons (.asg 8 (.call 728 (.cons (.loc 2) (.cons (.loc 5) (.cons (.loc 4) (.cons (.loc 11) .nil)))))) (.cons (.tryStop ir_law_try0 (some 16) ir_law_exc0) (.cons (.ret (.call 735 (.cons (.loc 8) (.cons (.loc 2) .nil)))) .nil))))))))))))))))))))
noncomputable def fn_law:Fn:=⟨["script","deck","places","depth","calm","tools","delta","values","ctx","whole","told","most","turn","many","guess","width","fault"],1,ir_law⟩
noncomputable def tabFn:List (Nat×Fn):=[(92,fn_mated_in),(99,fn_mate_in),(106,fn_to_table),(113,fn_from_table),(127,fn_SearchContext_init),(134,fn_SearchContext_tick),(148,fn_step_into),(155,fn_step_back),(162,fn_unwind),(169,fn_clear_line),(176,fn_set_line),(183,fn_line_from),(190,fn_pack_entry),(197,fn_unpack_entry),(204,fn_find_slot),(211,fn_worth),(218,fn_victim_slot),(225,fn_pushes_out),(232,fn_with_move),(246,fn_TransTable_init),(253,fn_TransTable_probe),(260,fn_TransTable_save),(267,fn_TransTable_new_search),(295,fn_cutoff),(302,fn_scale_down),(316,fn_History_init),(323,fn_History_get),(330,fn_History_update),(337,fn_History_bonus),(365,fn_Killers_init),(372,fn_Killers_add),(379,fn_Killers_pair),(386,fn_Killers_clear),(400,fn_reward),(407,fn_killer_pair),(414,fn_past_score),(428,fn_Picker_init),(435,fn_Picker_next),(440,fn_Picker_fill),(447,fn_Picker_fill_table),(454,fn_Picker_fill_good),(461,fn_Picker_fill_killers),(475,fn_take_best),(482,fn_quiesce),(489,fn_quiesce_moves),(496,fn_search),(503,fn_search_moves),(510,fn_search_child),(517,fn_look_up),(524,fn_keep_value),(531,fn_root_value),(545,fn_Report_init),(559,fn_lower_edge),(566,fn_upper_edge),(573,fn_aspirate),(580,fn_deepest),(587,fn_iterate),(594,fn_mtdf),(608,fn_TreeGame_init),(615,fn_TreeGame_moves),(620,fn_TreeGame_noisy),(627,fn_TreeGame_make),(634,fn_TreeGame_undo),(641,fn_TreeGame_value),(648,fn_TreeGame_key),(655,fn_TreeGame_in_check),(662,fn_TreeGame_is_draw),(669,fn_TreeGame_is_noisy),(676,fn_TreeGame_gain),(683,fn_TreeGame_side),(697,fn_law_card),(702,fn_law_deal),(709,fn_law_full),(716,fn_law_leads),(721,fn_law_game),(728,fn_law_context),(735,fn_law_at_root),(740,fn_law_reports),(747,fn_law_guess),(752,fn_law)]
noncomputable def tabIni:List (Nat×Nat):=[(137,127),(284,246),(347,316),(389,365),(464,428),(548,545),(686,608)]
noncomputable def tabMth:List (Nat×List (String×Nat)):=[(137,[("tick",134)]),(284,[("probe",253),("save",260),("new_search",267)]),(347,[("get",323),("update",330),("bonus",337)]),(389,[("add",372),("pair",379),("clear",386)]),(464,[("next",435),("fill",440),("fill_table",447),("fill_good",454),("fill_killers",461)]),(548,[]),(686,[("moves",615),("noisy",620),("make",627),("undo",634),("value",641),("key",648),("in_check",655),("is_draw",662),("is_noisy",669),("gain",676),("side",683)])]
noncomputable def tabAtt:List (Nat×List String):=[(137,["game","table","killers","history","qdepth","is_exact","max_nodes","nodes","made","lines"]),(284,["clusters","ways","age","slots"]),(347,["limit","scores"]),(389,["plies","first","second"]),(464,["game","left","table_move","killers","history","ply","stage","ready","losing"]),(548,["depth","value","line","nodes"]),(686,["children","values","checks","draws","noisy_rows","gain_rows","path"])]
noncomputable def row {α:Type} (a:Nat) (l:List (Nat×α)):Option α:=List.rec none (fun p zz r=>cond (Nat.beq p.1 a) (some p.2) r) l
theorem row_in {α:Type} {a:Nat} {l:List (Nat×α)} {x:α} (h:row a l=some x):(a,x)∈l:=by
 induction l with
 | nil=>exact nomatch h
 | cons p r ih =>
  have h:cond (Nat.beq p.1 a) (some p.2) (row a r)=some x:=h
  cases q:Nat.beq p.1 a with
  | true=>rw [q] at h;cases h;cases Nat.eq_of_beq_eq_true q;exact .head _
  | false=>rw [q] at h;exact .tail _ (ih h)
noncomputable def theTab:Tab:=⟨fun C n=>(row C tabAtt).any fun l=>l.any fun m=>decide (n=m),fun C n=>(row C tabMth).bind fun l=>List.rec none (fun p zz r=>if n=p.1 then some p.2 else r) l,fun C=>row C tabIni,fun f=>row f tabFn⟩
end Bm
namespace Bm
open PySem PySem.W PyProof.Rows PySem.SeqAt PySem.MeetsSeq Builtin Builtin.ObjectAttr
section
variable {prog:Program} {w:World} {A:Around} {E:Value→Shared→Prop} {s:Shared} {K:Frag} {x:Addr} {ox:Obj} {od:Option Obj} {name:Str} {expr:Bool} {Q:Value→Shared→Prop}
 {nm q:Str} {C N:Addr} {bs bm:List Value} {hdct:Bool} {sn:List Str} {sub:List Value} {ab:Bool} {col:Option Bool} {dd:Option Addr} {k0 k1 k2 k3 k5:Option Value} {newId:String}
theorem notCls_fields {o:Obj} {vs:Array Value} (h:o.data=.fields vs):notCls o=true:=by
 obtain⟨c,d,dt,sl⟩:=o;subst h;rfl
theorem exc_check_ga {M:Model} {a:Addr} {o:Obj} {nameV:Value} {Q:Unit→Shared→Prop} {h:Heap} {g:Array GenState} {d:Drawn} {t:Nat} {os:OsState} (hC:h.get? C=some (excClassObj nm q C N bs bm hdct sn sub ab col dd k0 k1 k2 k3 k5 newId)) (hb:bm.contains (.type "BaseException")=true)
  (hx:h.get? a=some o) (hc:o.cls=.ref C) (hq:Q () ⟨h,g,d,t,os⟩):wpAny M A (checkBuiltinCall "BaseException.__getattribute__" ⟨[.ref a,nameV],[]⟩) Q E ⟨h,g,d,t,os⟩:=by
 have hk:builtinKind "BaseException.__getattribute__" = some .slot:=by decide +kernel
 have hsplit:splitId "BaseException.__getattribute__" = some ("BaseException","__getattribute__"):=by decide +kernel
 have hcB:(Value.ref C::bm).contains (.type "BaseException")=true:=by rw [List.contains_cons,hb,Bool.or_true]
 have ha:=F.args_bexc_ga (.ref a) nameV
 simp only [checkBuiltinCall,hk,hsplit]
 refine wpAny_bind ?_
 ·unfold isInstance
  repeat (first | (with_reducible refine wpAny_loadPart_at hx ?_;rw [hc]) | (with_reducible refine wpAny_isSubtype_exc hC ?_;rw [hcB]) | wp_step)
  exact hq
theorem exc_get {v:Value} (X:K.In s.heap) (I:InstAt s.heap x ox C od) (hga:findIn K (.ref C) "__getattribute__" = some (some (.builtin "BaseException.__getattribute__"))) (hge:findIn K (.ref C) "__getattr__" = some none)
  (hC:s.heap.get? C=some (excClassObj nm q C N bs bm hdct sn sub ab col dd k0 k1 k2 k3 k5 newId)) (hb:bm.contains (.type "BaseException")=true)
  (hf:findObj K C od name=some (.value v)) (hh:handedIn v=true) (h:Q v { s with toks:=s.toks+1 }):wpAny (model prog w) A (getAttr (.ref x) name expr) Q E s:=by
 obtain⟨hp,g,d,t,os⟩:=s
 have L0:=I.type (M:=model prog w)
 have L1:=looks_findIn (M:=model prog w) X hga
 have L2:=looks_findIn (M:=model prog w) X hge
 have L3:=looks_find (M:=model prog w) X I hf
 have hx0:(expr&&onTheHeap (Value.builtin "BaseException.__getattribute__"))=false:=by cases expr <;> rfl
 have hx2:(Value.builtin "BaseException.__getattribute__" == Value.builtin "object.__getattribute__")=false:=by decide +kernel
 have hx1:(onTheHeap (Value.ref C)&&Value.builtin "BaseException.__getattribute__" == Value.builtin "object.__getattribute__")=false:=by rw [hx2];rfl
 have f3:=F.attr_Exception.ga.bind (.ref x)
 unfold getAttr getAttrBy
 refine wpAny_bind (wpAny_mkText (wpAny_holding (wpAny_bind (L0.at (wpAny_bind (L1.at ?_))))))
 dsimp only
 rw [hx1,if_neg Bool.false_ne_true]
 unfold getAttrByItsOwn hookBefore
 rw [if_pos (show onTheHeap (Value.ref C)=true from rfl)]
 refine wpAny_bind (L2.at ?_)
 refine wpAny_bind (wpAny_attempt (wpAny_holding ?_))
 unfold callGetattribute
 rw [hx0,if_neg Bool.false_ne_true]
 unfold boundAndCalled
 refine wpAny_bind (wpAny_of_eq f3 ?_)
 refine wpAny_call (codeAny_call_builtin F.attr_Exception.ga.plain F.entry_bexc_ga (exc_check_ga hC hb I.at_ I.cls ?_))
 show wpAny _ _ (Builtin.«object.__getattribute__» ⟨[.ref x,.str name t],[]⟩) _ _ _
 unfold Builtin.«object.__getattribute__»
 refine wpAny_bind (wpAny_pure (wpAny_bind (wpAny_pure (wpAny_bind (L0.at (wpAny_bind (L3.at ?_)))))))
 refine wpAny_pure ?_
 show wpAny _ _ (handedOut v) _ _ _
 rw [handedOut_of hh];exact wpAny_pure h
theorem exc_osa {C2:Addr} {cd:ClassData} {tk:Tok} {v:Value} {R:Result→Shared→Prop} (X:K.In s.heap) (I:InstAt s.heap x ox C od) (hc:clsIn K C=some cd) (hm:cd.mro=[.ref C,.ref C2,.type "Exception",.type "BaseException",.type "object"]) (ha:findIn K (.ref C) name=some none)
  (h:wpAny (model prog w) A.in1 (storeInOwnDict (.ref x) (.ref C) (.str name tk) name v false)
   (fun fin s'=>match fin with | .done f=>R (.ok f) s' | .again c'=>c'.quiet=true∧codeAny (model prog w) A c' R s') (fun e s'=>R (.error e) s') s) :
  codeAny (model prog w) A (.call (.builtin "object.__setattr__") ⟨[.ref x,.str name tk,v],[]⟩) R s:=by
 have SF:=PySem.F.store_object
 have ne:cd.mro.isEmpty=false:=by rw [hm];rfl
 have hcon:cd.mro.contains (.type "object")=true:=by rw [hm];simp
 have sub:Looks (model prog w) s.heap (isInstance (.ref x) (.type "object")) true:=I.type.andThen (looks_mroIn X (by unfold mroIn;rw [hc,Option.bind_some,if_neg (by rw [ne];decide),hcon]))
 refine codeAny_call_builtin SF.slot.plain SF.entry (@check_slot (model prog w) _ _ s "object.__setattr__" "object" "__setattr__" (.ref x) [.str name tk,v] [] _ SF.kind SF.split sub (SF.args (.ref x) (.str name tk) v) ?_)
 have hmro:Looks (model prog w) s.heap (mroOf (.ref C)) cd.mro:=(looks_clsIn X hc).andThen .now
 have L3:Looks (model prog w) s.heap (storeTaker? none) none:=.now
 rw [osa_eq,refuse_eq]
 refine wpAny_bind (wpAny_bind (I.type.here (wpAny_bind (hmro.here ?_))))
 rw [hm,refuseLoop_ref,refuseLoop_ref,PySem.F.store_Exception.passes]
 refine wpAny_pure (wpAny_bind (I.type.here (wpAny_bind ((looks_findIn X ha).here (wpAny_bind (L3.here ?_))))))
 exact h
theorem exc_set0 {C2:Addr} {cd:ClassData} {v:Value} {Q:Unit→Shared→Prop} (X:K.In s.heap) (ho:s.heap.get? x=some ox) (hcl:ox.cls=.ref C) (hdn:ox.dict=none) {fs:Array Value} (hdata:ox.data=.fields fs)
  (hc:clsIn K C=some cd) (hm:cd.mro=[.ref C,.ref C2,.type "Exception",.type "BaseException",.type "object"]) (hhd:cd.hasDict=true) (hsa:findIn K (.ref C) "__setattr__" = some (some (.builtin "object.__setattr__"))) (ha:findIn K (.ref C) name=some none)
  (h:∀ h' tk,h'.get? x=some { ox with dict:=some s.heap.objs.size }→h'.Ns1 s.heap.objs.size (fun y=>if y=name then some v else none)→(∀ b o,b≠x→s.heap.get? b=some o→h'.get? b=some o)→Q () { s with heap:=h',toks:=tk }) :
  wpAny (model prog w) A (setAttr (.ref x) name v) Q E s:=by
 obtain⟨oc,odi,oda,osl⟩:=ox
 dsimp only at hcl hdn hdata
 subst hcl hdn hdata
 have I:InstAt s.heap x ⟨.ref C,none,.fields fs,osl⟩ C none:=⟨ho,rfl,rfl,trivial⟩
 refine set_plain X I hsa (exc_osa (s:={ s with toks:=s.toks+1 }) X I hc hm ha ?_)
 refine wpAny_bind (wpAny_pure (wpAny_bind (wpAny_bind (wpAny_loadPart (s:={ s with toks:=s.toks+1 }) ho ?_))))
 dsimp only
 obtain⟨hp,g,d,t,os⟩:=s
 dsimp only at ho h ⊢
 refine wpAny_bind ((looks_clsIn X hc).at ?_)
 rw [hhd]
 rw [if_neg (by decide),if_neg (by simp [typeHasDict])]
 have hx₁:(hp.push { cls:=.type "dict",data:=.dict #[] }).get? x=some ⟨.ref C,none,.fields fs,osl⟩:=Heap.get?_push_of_some _ ho
 have hxs:x≠hp.objs.size:=Nat.ne_of_lt (Heap.lt_size ho)
 refine wpAny_bind (wpAny_alloc ?_)
 refine wpAny_bind (wpAny_update' hx₁ ?_)
 refine wpAny_pure ?_
 have hgd:((hp.push { cls:=.type "dict",data:=.dict #[] }).update x fun o=>{ cls:=o.cls,dict:=some hp.objs.size,data:=o.data,slots:=o.slots }).get? hp.objs.size
   = some { cls:=.type "dict",data:=.dict #[] } :=
  (Heap.get?_update_ne _ _ _ _ hxs.symm).trans (Heap.get?_push_at rfl rfl)
 have hnd:((hp.push { cls:=.type "dict",data:=.dict #[] }).update x fun o=>{ cls:=o.cls,dict:=some hp.objs.size,data:=o.data,slots:=o.slots }).Ns hp.objs.size (fun zz=>none) :=
  ⟨_,#[],_,hgd,rfl,fun e he=>absurd he (by simp),fun zz=>rfl⟩
 show wpAny _ _ (storeInDict hp.objs.size (.str name _) name v) _ _ _
 unfold storeInDict newKeyGuard
 refine wpAny_bind (wpAny_pure (wpAny_bind (wpAny_nsSet1 (Heap.Ns1.of_empty hnd) fun h' hn' hs=>?_)))
 obtain⟨oD,esD,epD,hoD,hdD,hcD⟩:=hn'.count (Within.cons name v Within.nil)
 refine wpAny_bind (wpAny_lookBehind hoD (by rw [hdD];exact pastItsLine_dict (Nat.le_trans hcD (by rw [List.length_cons,List.length_nil,sizeLine_eq];lia))) ?_)
 refine wpAny_pure (h h' _ ((hs.2 x hxs).trans (Heap.get?_update_self _ hx₁ rfl)) hn' fun b o hb e=>?_)
 exact(hs.2 b (Nat.ne_of_lt (Heap.lt_size e))).trans ((Heap.get?_update_ne _ _ _ _ hb).trans (Heap.get?_push_of_some _ e))
theorem exc_set1 {C2 dx:Addr} {cd:ClassData} {v:Value} {mA:Str→Option Value} {ns:List Str} {Q:Unit→Shared→Prop} (X:K.In s.heap) (ho:s.heap.get? x=some ox) (hcl:ox.cls=.ref C) (hdn:ox.dict=some dx) {fs:Array Value} (hdata:ox.data=.fields fs) (hns:s.heap.Ns1 dx mA) (hw:Within mA ns) (hsz:ns.length≤100)
  (hc:clsIn K C=some cd) (hm:cd.mro=[.ref C,.ref C2,.type "Exception",.type "BaseException",.type "object"]) (hhd:cd.hasDict=true) (hsa:findIn K (.ref C) "__setattr__" = some (some (.builtin "object.__setattr__"))) (ha:findIn K (.ref C) name=some none)
  (h:∀ h' tk,h'.Ns1 dx (fun y=>if y=name then some v else mA y)→Heap.SameBut dx s.heap h'→Q () { s with heap:=h',toks:=tk }) :
  wpAny (model prog w) A (setAttr (.ref x) name v) Q E s:=by
 obtain⟨oc,odi,oda,osl⟩:=ox
 dsimp only at hcl hdn hdata
 subst hcl hdn hdata
 obtain⟨oD0,_,_,hoD0,_⟩:=id hns
 have I:InstAt s.heap x ⟨.ref C,some dx,.fields fs,osl⟩ C (some oD0):=⟨ho,rfl,rfl,hoD0⟩
 refine set_plain X I hsa (exc_osa (s:={ s with toks:=s.toks+1 }) X I hc hm ha ?_)
 refine wpAny_bind (wpAny_pure (wpAny_bind (wpAny_bind (wpAny_loadPart (s:={ s with toks:=s.toks+1 }) ho ?_))))
 dsimp only
 obtain⟨hp,g,d,t,os⟩:=s
 dsimp only at ho h hns ⊢
 refine wpAny_bind ((looks_clsIn X hc).at ?_)
 rw [hhd]
 rw [if_neg (by decide)]
 refine wpAny_pure ?_
 show wpAny _ _ (storeInDict dx (.str name _) name v) _ _ _
 unfold storeInDict newKeyGuard
 refine wpAny_bind (wpAny_pure (wpAny_bind (wpAny_nsSet1 hns fun h' hn' hs=>?_)))
 obtain⟨oD,esD,epD,hoD,hdD,hcD⟩:=hn'.count (Within.cons name v hw)
 refine wpAny_bind (wpAny_lookBehind hoD (by rw [hdD];exact pastItsLine_dict (Nat.le_trans hcD (by rw [List.length_cons,sizeLine_eq];lia))) ?_)
 exact wpAny_pure (h h' _ hn' hs)
end
noncomputable def excObj (ta:Nat) (dx:Option Nat):Obj:={ cls:=.ref 71,dict:=dx,data:=.fields #[.ref ta,.none,.none,.none,.bool false,.none] }
noncomputable def bmE:List Value:=[.type "Exception",.type "BaseException",.type "object"]
section
variable {K:Frag}
noncomputable abbrev o71:Obj:=excClassObj "SearchStopped" "SearchStopped" 71 70 [.ref 38] (.ref 38::bmE) true [] [] false none none (some (.ref 54)) none (some (.str "SearchStopped" 241)) (some (.str "SearchStopped" 249)) (some (.bool true)) "Exception.__new__"
structure ExcCls (K:Frag):Prop where
 c71:K.lookup 71=some o71
 i71:findIn K (.ref 71) "__init__" = some (some (.ref 68))
 t68:typeIn K (.ref 68)=some (.type "function")
 g38:specialIn K (.ref 38) "__getattribute__" = some (some (.builtin "type.__getattribute__"))
 r38:readsIn K 38 (.type "type")=true
 f38:findCls K (.ref 38) (.type "type") "__init__" = some (.val (.ref 35))
 fE:findCls K (.type "Exception") (.type "type") "__init__" = some (.val (.builtin "Exception.__init__"))
 k35:keepIn K (.ref 35)=true
 sa:findIn K (.ref 71) "__setattr__" = some (some (.builtin "object.__setattr__"))
 aText:findIn K (.ref 71) "text" = some none
 aNodes:findIn K (.ref 71) "nodes" = some none
theorem ExcCls.cd (C:ExcCls K):∃ cd,clsIn K 71=some cd∧cd.mro=[.ref 71,.ref 38,.type "Exception",.type "BaseException",.type "object"]∧cd.hasDict=true:=by
 unfold clsIn
 rw [C.c71]
 exact⟨_,rfl,rfl,rfl⟩
noncomputable def plainP (p:Arguments):Bool:=p.posonlyargs.isEmpty&&p.vararg.isNone&&p.kwonlyargs.isEmpty&&p.kwarg.isNone
inductive RawAt (K:Frag) (f:Nat) (ps:List Str) (scope:Scope) (body:List Stmt):Prop
 | mk (fd:FuncData) (c:Value) (d:Option Addr) (sl:Array (Option Value)) (h:K.lookup f=some ⟨c,d,.func fd,sl⟩) (hb:fd.body=.stmts body) (h0:fd.scope=scope) (h1:fd.closure=[]) (h2:fd.globals=mainGlobals) (h3:fd.builtins=builtinsNs) (h4:fd.params.args.map (·.arg)=ps)
  (h5:plainP fd.params=true) (h6:codeIn K fd.code fd.qualname=true) (h7:fd.defaults=.none∨∃ D,fd.defaults=.ref D∧∃ c d xs n sl,K.lookup D=some ⟨c,d,.seq xs n,sl⟩)
structure RawFn (K:Frag) (f:Nat) (ps:List Str) (scope:Scope) (body:List Stmt):Prop where
 at_:RawAt K f ps scope body
 nd:ps.Nodup
 loc:∀ x∈ps,scope.names.lookup x=some .local
 noCell:∀ x∈scope.names,x.2≠.cell
 kind:scope.kind=.function
 gen:scope.isGenerator=false
 cor:scope.isCoroutine=false
inductive ArgN (x:Str):Expr→Prop
 | mk (p:Pos):ArgN x (.Name x p)
inductive ArgS:Expr→Prop
 | mk (s:Str) (k:Nat) (p:Pos):ArgS (.Constant (.str s) k p)
noncomputable def mkArgN (x:Str):(e:Expr)→Option (PLift (ArgN x e))
 | .Name y p=>gp (y=x) fun h=>ok (h ▸ .mk p)
 | _=>none
noncomputable def mkArgS:(e:Expr)→Option (PLift (ArgS e))
 | .Constant (.str s) k p=>ok (.mk s k p)
 | _=>none
inductive MakerF (B attr:Str) (Arg:Expr→Prop):List Stmt→Prop
 | mk {b i a a2 t v:Str} (p1 ap p2:Pos) (e:Expr) (cp p3 p4 p5 p6 p7:Pos) (h1:b=B) (h2:i = "__init__") (h3:a = "self") (h4:a2 = "self") (h5:t=attr) (h6:v=attr) (l:ap.endLine=cp.line) (g:Arg e) :
  MakerF B attr Arg [.Expr (.Call (.Attribute (.Name b p1) i ap) [.Name a p2,e] [] cp) p3,.Assign [.Attribute (.Name a2 p4) t p5] (.Name v p6) p7]
noncomputable def mkMaker (B attr:Str) {Arg:Expr→Prop} (arg:(e:Expr)→Option (PLift (Arg e))) (body:List Stmt):Option (PLift (MakerF B attr Arg body)):=match body with
 | [.Expr (.Call (.Attribute (.Name b p1) i ap) [.Name a p2,e] [] cp) p3,.Assign [.Attribute (.Name a2 p4) t p5] (.Name v p6) p7] =>
  gp (b=B) fun h1=>gp (i = "__init__") fun h2=>gp (a = "self") fun h3=>gp (a2 = "self") fun h4=>gp (t=attr) fun h5=>gp (v=attr) fun h6=>gp (ap.endLine=cp.line) fun l=>bd (arg e) fun g=>ok (.mk p1 ap p2 e cp p3 p4 p5 p6 p7 h1 h2 h3 h4 h5 h6 l g)
 | _=>none
theorem some_of {p:Prop} {o:Option (PLift p)} (h:o.isSome=true):p:=by
 cases o with
 | none=>cases h
 | some x=>exact x.down
inductive MkOk (K:Frag) (f:Nat) (B attr:Str) (Arg:Expr→Prop):Prop
 | mk (scope:Scope) (body:List Stmt) (R:RawFn K f ["self",attr] scope body) (M:MakerF B attr Arg body) (g:scope.names.lookup B=some .globalImplicit)
structure StopOk (K:Frag):Prop where
 cls:ExcCls K
 r35:MkOk K 35 "Exception" "text" (ArgN "text")
 r68:MkOk K 68 "ChessError" "nodes" ArgS
 ga:findIn K (.ref 71) "__getattribute__" = some (some (.builtin "BaseException.__getattribute__"))
 ge:findIn K (.ref 71) "__getattr__" = some none
 hd:hasDictIn K 71=true
end
end Bm
namespace Bm
open PySem PySem.W PyProof.Rows
inductive VR:Value→AV→Prop
 | undef (v:Value):VR v .undef
 | none:VR .none .none
 | bool (b:Bool):VR (.bool b) (.bool b)
 | int (i:Int) (t:Tok):VR (.int i t) (.int i)
 | ref (a:Nat):VR (.ref a) (.ref a)
@[elab_as_elim] theorem VR.eInt {v:Value} {i:Int} {C:Value→Prop} (h:VR v (.int i)) (k:∀ t,C (.int i t)):C v:=by cases h;exact k _
@[elab_as_elim] theorem VR.eRef {v:Value} {a:Nat} {C:Value→Prop} (h:VR v (.ref a)) (k:C (.ref a)):C v:=by cases h;exact k
@[elab_as_elim] theorem VR.isI {v:Value} {x:AV} {F:Int→Prop} {C:Value→Prop} (h:Bm.isI x F) (hv:VR v x) (k:∀ a t,F a→C (.int a t)):C v:=by
 cases hv <;> first | exact k _ _ h | exact h.elim
inductive L2 {α β:Type} (R:α→β→Prop):List α→List β→Prop
 | nil:L2 R [] []
 | cons {a b l m}:R a b→L2 R l m→L2 R (a::l) (b::m)
theorem L2.length {α β:Type} {R:α→β→Prop} {l:List α} {m:List β} (h:L2 R l m):l.length=m.length:=by
 induction h with
 | nil=>rfl
 | cons _ _ ih=>simp [ih]
theorem L2.append {α β:Type} {R:α→β→Prop} {l l':List α} {m m':List β} (h:L2 R l m) (h':L2 R l' m'):L2 R (l++l') (m++m'):=by
 induction h with
 | nil=>exact h'
 | cons r _ ih=>exact .cons r ih
theorem L2.mono {α β:Type} {R R':α→β→Prop} (k:∀ a b,R a b→R' a b) {l:List α} {m:List β} (h:L2 R l m):L2 R' l m:=by
 induction h with
 | nil=>exact .nil
 | cons r _ ih=>exact .cons (k _ _ r) ih
inductive Kd where
 | free | base | obj | dic (a:Nat) | var | prot | exc
structure Cx where
 prog:Program
 w:World
 base:Heap
 gens:Array GenState
 drawn:Drawn
 os:OsState
noncomputable abbrev listObj (arr:Array Value) (n:Nat):Obj:={ cls:=.type "list",dict:=none,data:=.seq arr n,slots:=#[] }
noncomputable abbrev tupObj (arr:Array Value) (n:Nat):Obj:={ cls:=.type "tuple",dict:=none,data:=.seq arr n,slots:=#[] }
noncomputable def KS (kv:Str×Value) (f:String×AV):Prop:=kv.1=Str.ofString f.1∧VR kv.2 f.2
noncomputable def KI (kv:Int×Value) (f:Int×AV):Prop:=kv.1=f.1∧VR kv.2 f.2
noncomputable def FR (e:DictEntry) (f:String×AV):Prop:=(∃ tk,e.key=.str (Str.ofString f.1) tk)∧VR e.val f.2
noncomputable def kd:AO→Kd
 | .ro _=>.base
 | _=>.obj
theorem kd_ne {ao:AO} {x:Kd} (h1:x≠.obj) (h2:x≠.base):kd ao≠x:=by
 cases ao <;> first | exact fun e=>h1 e.symm | exact fun e=>h2 e.symm
inductive ObSeq (f:Array Value→Nat→Obj) (h:Heap) (a:Nat) (xs:List AV):Prop
 | mk (arr:Array Value) (n:Nat) (o:h.get? a=some (f arr n)) (r:L2 VR arr.toList xs) (z:arr.size≤lim)
inductive ObObj (G:Nat→Kd) (h:Heap) (a C:Nat) (fs:List (String×AV)):Prop
 | mk (dx:Nat) (es:List DictEntry) (n:Nat) (o:h.get? a=some (instObj C dx)) (g:G dx=.dic a) (d:h.get? dx=some (dictOf es n)) (r:L2 FR es fs)
inductive ObDk {κ β:Type} (D:List κ→Prop) (R:κ→β→Prop) (a:Nat) (fs:List β):Prop
 | mk (kvs:List κ) (d:D kvs) (r:L2 R kvs fs) (z:kvs.length≤lim) (m:(a == sysModules)=false)
inductive ObExc (G:Nat→Kd) (h:Heap) (a:Nat) (v:AV):Prop
 | mk (o:Obj) (dx:Nat) (m:Str→Option Value) (h1:h.get? a=some o) (h2:o.cls=.ref 71) (h3:o.dict=some dx) (h4:notCls o=true) (h5:G dx=.dic a) (h6:h.Ns dx m) (h7:isInt v=true) (x:Value) (h8:m (Str.ofString "nodes")=some x) (h9:VR x v)
noncomputable def Ob (c:Cx) (G:Nat→Kd) (h:Heap) (a:Nat):AO→Prop
 | .list xs=>ObSeq listObj h a xs
 | .ro xs=>∃ arr,(∃ o,h.get? a=some o∧o.cls=.type "list"∧∃ n,o.data=.seq arr n)∧L2 VR arr.toList xs∧arr.size≤lim
 | .tup xs=>ObSeq tupObj h a xs
 | .obj C fs=>ObObj G h a C fs
 | .deck fs=>ObDk (Heap.DictOf (strKind c.prog c.w) h a) KS a fs
 | .idict d=>ObDk (Heap.DictOf (intKind c.prog c.w) h a) KI a d
 | .exc v=>ObExc G h a v
noncomputable def PR (fr:List Env) (h:Heap) (p:Addr×Obj):Prop:=h.get? p.1=some p.2∨(((∃ e∈fr,e.frame=some p.1)∧∃ es n,p.2.data=.dict es n)∧∃ sl,h.get? p.1=some { p.2 with slots:=sl })
structure StC (c:Cx) (G:Nat→Kd) (fr:List Env) (P:List (Addr×Obj)) (H:AHeap) (s:Shared):Prop where
 keep:∀ b o,c.base.get? b=some o→G b=.base∧s.heap.get? b=some o
 ex:∀ a,G a≠.free→∃ o,s.heap.get? a=some o
 hv:∀ a ao,H a=some ao→G a=kd ao∧Ob c G s.heap a ao
 pv:∀ p∈P,G p.1=.prot∧PR fr s.heap p
 frs:∀ e∈fr,e.scope.kind≠.module∧∃ L o,e.frame=some L∧(G L=.prot∨G L=.var)∧s.heap.get? L=some o∧∃ es n,o.data=.dict es n
 gens:s.gens=c.gens
 drawn:s.drawn=c.drawn
 os:s.os=c.os
theorem Ob.keep {c:Cx} {G G':Nat→Kd} {h h':Heap} {a:Nat} {ao:AO} (x:Ob c G h a ao)
  (k:∀ b o,(b=a∨G b=.dic a)→h.get? b=some o→h'.get? b=some o) (kg:∀ b,G b=.dic a→G' b=.dic a):Ob c G' h' a ao:=by
 cases ao with
 | list xs=>obtain⟨arr,n,h1,h2,h3⟩:=x;exact⟨arr,n,k _ _ (.inl rfl) h1,h2,h3⟩
 | ro xs=>obtain⟨arr,⟨o,h1,h3⟩,h2⟩:=x;exact⟨arr,⟨o,k _ _ (.inl rfl) h1,h3⟩,h2⟩
 | tup xs=>obtain⟨arr,n,h1,h2,h3⟩:=x;exact⟨arr,n,k _ _ (.inl rfl) h1,h2,h3⟩
 | obj C fs=>obtain⟨dx,es,n,h1,h2,h3,h4⟩:=x;exact⟨dx,es,n,k _ _ (.inl rfl) h1,kg _ h2,k _ _ (.inr h2) h3,h4⟩
 | deck fs=>obtain⟨kvs,⟨o,es,ep,h1,r⟩,h2,h3,h4⟩:=x;exact⟨kvs,⟨o,es,ep,k _ _ (.inl rfl) h1,r⟩,h2,h3,h4⟩
 | idict d=>obtain⟨kvs,⟨o,es,ep,h1,r⟩,h2,h3,h4⟩:=x;exact⟨kvs,⟨o,es,ep,k _ _ (.inl rfl) h1,r⟩,h2,h3,h4⟩
 | exc v=>obtain⟨o,dx,m,h1,h2,h3,h4,h5,⟨o',es,ep,h6,r⟩,h7,x,h8,h9⟩:=x;exact⟨o,dx,m,k _ _ (.inl rfl) h1,h2,h3,h4,kg _ h5,⟨o',es,ep,k _ _ (.inr h5) h6,r⟩,h7,x,h8,h9⟩
theorem PR.keep {fr:List Env} {h h':Heap} {p:Addr×Obj} (x:PR fr h p) (k:∀ o,h.get? p.1=some o→h'.get? p.1=some o):PR fr h' p:=by
 rcases x with x | ⟨d,sl,x⟩
 ·exact .inl (k _ x)
 ·exact .inr ⟨d,sl,k _ x⟩
section
variable {c:Cx} {G:Nat→Kd} {fr:List Env} {P:List (Addr×Obj)} {H:AHeap} {s:Shared}
theorem StC.lt (S:StC c G fr P H s):∀ a,G a≠.free→a < s.heap.objs.size:=fun a h=>let ⟨_,e⟩:=S.ex a h;Heap.lt_size e
theorem StC.freeAt (S:StC c G fr P H s):G s.heap.objs.size=.free:=by
 cases h:G s.heap.objs.size with
 | free=>rfl
 | _=>exact absurd (S.lt _ (by rw [h];exact fun e=>nomatch e)) (Nat.lt_irrefl _)
theorem StC.hnone (S:StC c G fr P H s):H s.heap.objs.size=none:=by
 cases h:H s.heap.objs.size with
 | none=>rfl
 | some ao=>have:=(S.hv _ _ h).1;rw [S.freeAt] at this;exact absurd this.symm (kd_ne (fun q=>nomatch q) (fun q=>nomatch q))
noncomputable def gset (G:Nat→Kd) (a:Nat) (k:Kd):Nat→Kd:=fun b=>if b=a then k else G b
theorem gset_ne {G:Nat→Kd} {a b:Nat} {k:Kd} (h:b≠a):gset G a k b=G b:=by simp [gset,h]
theorem gset_eq {G:Nat→Kd} {a:Nat} {k:Kd}:gset G a k a=k:=by simp [gset]
theorem StC.change (S:StC c G fr P H s) {h':Heap} {tk:Nat} {a:Nat} {H':AHeap} (hex:G a≠.free→∃ o,h'.get? a=some o) (hk:∀ b o,b≠a→s.heap.get? b=some o→h'.get? b=some o)
  (ga:G a=.obj∨(∃ x,G a=.dic x)∨G a=.free∨G a=.exc) (nf:∀ b ao,H' b=some ao→(H b=some ao∧b≠a∧G a≠.dic b)∨(G b=kd ao∧Ob c G h' b ao)):StC c G fr P H' { s with heap:=h',toks:=tk }:=by
 have ne:∀ b,(G b=.base∨G b=.prot∨G b=.var)→b≠a:=by
  rintro b hb rfl
  rcases ga with e | ⟨x,e⟩ | e | e <;> rw [e] at hb <;> rcases hb with q | q | q <;> cases q
 refine⟨fun b o e=>⟨(S.keep b o e).1,hk _ _ (ne b (.inl (S.keep b o e).1)) (S.keep b o e).2⟩,fun b hb=>if q:b=a then q ▸ hex (q ▸ hb) else let ⟨o,e⟩:=S.ex b hb;⟨o,hk b o q e⟩,fun b ao e=>?_,fun p hp=>?_,fun e he=>?_,S.gens,S.drawn,S.os⟩
 ·rcases nf b ao e with ⟨e1,e2,e3⟩ | h
  ·have:=S.hv b ao e1
   refine⟨this.1,this.2.keep (fun b' o hb' ho=>hk _ _ (fun q=>?_) ho) fun zz q=>q⟩
   subst q
   rcases hb' with q | q
   ·exact e2 q.symm
   ·exact e3 q
  ·exact h
 ·have:=S.pv p hp
  exact⟨this.1,this.2.keep fun o ho=>hk _ _ (ne _ (.inr (.inl this.1))) ho⟩
 ·obtain⟨h1,L,o,h2,h3,h4,h5⟩:=S.frs e he
  exact⟨h1,L,o,h2,h3,hk _ _ (ne L (by rcases h3 with q | q <;> simp [q])) h4,h5⟩
theorem StC.garbage (S:StC c G fr P H s) (o:Obj) (tk:Nat):StC c G fr P H { s with heap:=s.heap.push o,toks:=tk } :=
 S.change (a:=s.heap.objs.size) (fun q=>absurd S.freeAt q) (fun zz zz zz e=>Heap.get?_push_of_some _ e) (.inr (.inr (.inl S.freeAt)))
  fun b ao e=>.inl ⟨e,(fun q=>by subst q;rw [S.hnone] at e;cases e),(by rw [S.freeAt];exact fun q=>nomatch q)⟩
theorem StC.toks (S:StC c G fr P H s) (tk:Nat):StC c G fr P H { s with toks:=tk }:=⟨S.keep,S.ex,S.hv,S.pv,S.frs,S.gens,S.drawn,S.os⟩
theorem StC.grow (S:StC c G fr P H s) {h':Heap} {tk:Nat} (hk:∀ b o,s.heap.get? b=some o→h'.get? b=some o):StC c G fr P H { s with heap:=h',toks:=tk } :=
 S.change (a:=s.heap.objs.size) (fun q=>absurd S.freeAt q) (fun b o zz e=>hk b o e) (.inr (.inr (.inl S.freeAt)))
  fun b ao e=>.inl ⟨e,(fun q=>by subst q;rw [S.hnone] at e;cases e),(by rw [S.freeAt];exact fun q=>nomatch q)⟩
theorem StC.rekind (S:StC c G fr P H s) {G':Nat→Kd} (h1:∀ a,G a≠.free→G' a=G a) (h2:∀ a,G' a≠.free→∃ o,s.heap.get? a=some o):StC c G' fr P H s:=by
 have g:∀ a k,G a=k→k≠.free→G' a=k:=fun a k e n=>by rw [h1 a (by rw [e];exact n),e]
 refine⟨fun b o e=>⟨g _ _ (S.keep b o e).1 (fun q=>nomatch q),(S.keep b o e).2⟩,h2,fun b ao e=>?_,fun p hp=>⟨g _ _ (S.pv p hp).1 (fun q=>nomatch q),(S.pv p hp).2⟩,fun e he=>?_,S.gens,S.drawn,S.os⟩
 ·have:=S.hv b ao e
  exact⟨g _ _ this.1 (kd_ne (fun q=>nomatch q) (fun q=>nomatch q)),this.2.keep (fun zz zz zz e=>e) fun b e=>g _ _ e (fun q=>nomatch q)⟩
 ·obtain⟨h1,L,o,h2,h3,h4,h5⟩:=S.frs e he
  exact⟨h1,L,o,h2,h3.imp (fun e=>g _ _ e (fun q=>nomatch q)) (fun e=>g _ _ e (fun q=>nomatch q)),h4,h5⟩
theorem Ob.there {c:Cx} {G:Nat→Kd} {h:Heap} {a:Nat} {ao:AO} (x:Ob c G h a ao):∃ o,h.get? a=some o:=by
 cases ao with
 | list xs=>obtain⟨arr,n,h1,_⟩:=x;exact⟨_,h1⟩
 | ro xs=>obtain⟨arr,⟨o,h1,_⟩,_⟩:=x;exact⟨_,h1⟩
 | tup xs=>obtain⟨arr,n,h1,_⟩:=x;exact⟨_,h1⟩
 | obj C fs=>obtain⟨dx,es,n,h1,_⟩:=x;exact⟨_,h1⟩
 | deck fs=>obtain⟨kvs,⟨o,es,ep,h1,_⟩,_⟩:=x;exact⟨_,h1⟩
 | idict d=>obtain⟨kvs,⟨o,es,ep,h1,_⟩,_⟩:=x;exact⟨_,h1⟩
 | exc v=>obtain⟨o,dx,m,h1,_⟩:=x;exact⟨_,h1⟩
theorem StC.alloc (S:StC c G fr P H s) {o:Obj} {ao:AO} (tk:Nat) (ho:Ob c (gset G s.heap.objs.size .obj) (s.heap.push o) s.heap.objs.size ao) (hk:kd ao=.obj:=by rfl) :
  StC c (gset G s.heap.objs.size .obj) fr P (upd H s.heap.objs.size ao) { s with heap:=s.heap.push o,toks:=tk }:=by
 have S1:=(S.garbage o tk).rekind (G':=gset G s.heap.objs.size .obj) (fun a ha=>gset_ne fun q=>ha (by rw [q,S.freeAt])) (fun a ha=>by
  by_cases q:a=s.heap.objs.size
  ·rw [q];exact ho.there
  ·rw [gset_ne q] at ha;obtain⟨o',e⟩:=S.ex a ha;exact⟨o',Heap.get?_push_of_some _ e⟩)
 refine⟨S1.keep,S1.ex,fun a ao' e=>?_,S1.pv,S1.frs,S1.gens,S1.drawn,S1.os⟩
 unfold upd at e
 split at e
 ·rename_i q;subst q;cases e;exact⟨gset_eq.trans hk.symm,ho⟩
 ·exact S1.hv a ao' e
theorem StC.put (S:StC c G fr P H s) {h':Heap} {tk:Nat} {a:Nat} {ao:AO} (ga:G a=.obj) (hs:Heap.SameBut a s.heap h') (ho:Ob c G h' a ao) (hk:kd ao=.obj:=by rfl):StC c G fr P (upd H a ao) { s with heap:=h',toks:=tk }:=by
 refine S.change (a:=a) (fun zz=>ho.there) (fun b o hb e=>(hs.2 b hb).trans e) (.inl ga) fun b ao' e=>?_
 unfold upd at e
 split at e
 ·rename_i q;subst q;cases e;exact .inr ⟨ga.trans hk.symm,ho⟩
 ·rename_i q;exact .inl ⟨e,q,by rw [ga];exact fun z=>nomatch z⟩
theorem StC.putD (S:StC c G fr P H s) {h':Heap} {tk:Nat} {a dx:Nat} {ao:AO} (hex:∃ o,h'.get? dx=some o) (hx:G dx=.dic a) (ga:G a=.obj) (hs:Heap.SameBut dx s.heap h') (ho:Ob c G h' a ao) (hk:kd ao=.obj:=by rfl):StC c G fr P (upd H a ao) { s with heap:=h',toks:=tk }:=by
 refine S.change (a:=dx) (fun zz=>hex) (fun b o hb e=>(hs.2 b hb).trans e) (.inr (.inl ⟨a,hx⟩)) fun b ao' e=>?_
 unfold upd at e
 split at e
 ·rename_i q;subst q;cases e;exact .inr ⟨ga.trans hk.symm,ho⟩
 ·rename_i q
  refine .inl ⟨e,fun z=>?_,fun z=>?_⟩
  ·subst z;have:=(S.hv _ _ e).1;rw [hx] at this;exact absurd this.symm (kd_ne (fun q=>nomatch q) (fun q=>nomatch q))
  ·rw [hx] at z;cases z;exact q rfl
end
noncomputable def Reads (G:Nat→Kd) (P:List (Addr×Obj)) (env:Env) (h:Heap) (x:Str) (v:Value):Prop :=
 (env.kindOf x=some .local∧∃ m,h.Ns env.locals m∧m x=some v) ∨
 (∃ ca,(env.kindOf x=some .cell∨env.kindOf x=some .free)∧env.cells.lookup x=some ca∧((G ca=.var∧h.IsCell ca (some v))∨∃ o,(ca,o)∈P∧o.data=.cell (some v)))
noncomputable def Stores (G:Nat→Kd) (env:Env) (x:Str):Prop :=
 env.kindOf x=some .local∨(env.kindOf x=some .cell∧∃ ca,env.cells.lookup x=some ca∧G ca=.var)
structure Vr (G:Nat→Kd) (P:List (Addr×Obj)) (env:Env) (nm ws:List String) (ρ:List AV) (h:Heap):Prop where
 fn:env.scope.kind=.function
 gl:env.globals=mainGlobals
 bi:env.builtins=builtinsNs
 loc:G env.locals=.var
 ns:∃ m,h.Ns env.locals m
 reads:∀ x i,idx x nm=some i→okKind (env.kindOf x)=true→lget ρ i≠.undef→∃ v,Reads G P env h x v∧VR v (lget ρ i)
 stores:∀ x∈ws,Stores G env (Str.ofString x)
 cells:∀ x ca,env.cells.lookup x=some ca→G ca=.var→∃ v₀,h.IsCell ca v₀
 inj:∀ x y ca,env.cells.lookup x=some ca→env.cells.lookup y=some ca→x=y
 len:ρ.length=nm.length
 inP:∀ x ca,env.cells.lookup x=some ca→G ca=.var∨∃ o v,(ca,o)∈P∧o.data=.cell v
 has:∀ x,(env.kindOf x=some .cell∨env.kindOf x=some .free)→∃ ca,env.cells.lookup x=some ca
theorem Vr.step {G G':Nat→Kd} {P:List (Addr×Obj)} {env:Env} {nm ws:List String} {ρ:List AV} {h h':Heap} (V:Vr G P env nm ws ρ h) (g:∀ a,G a=.var→G' a=.var)
  (g':∀ x ca,env.cells.lookup x=some ca→G' ca=.var→G ca=.var) (k:∀ a o,G a=.var→h.get? a=some o→h'.get? a=some o):Vr G' P env nm ws ρ h':=by
 have ns':∀ m,h.Ns env.locals m→h'.Ns env.locals m:=fun m ⟨o,es,ep,ho,r⟩=>⟨o,es,ep,k _ _ V.loc ho,r⟩
 have cell':∀ ca v,G ca=.var→h.IsCell ca v→h'.IsCell ca v:=fun ca v q ⟨o,ho,hd⟩=>⟨o,k _ _ q ho,hd⟩
 refine⟨V.fn,V.gl,V.bi,g _ V.loc,V.ns.imp ns',fun x i e hk n=>?_,fun x hx=>?_,fun x ca e q=>?_,V.inj,V.len,fun x ca e=>(V.inP x ca e).imp (g _) id,V.has⟩
 ·obtain⟨v,hr,hv⟩:=V.reads x i e hk n
  refine⟨v,?_,hv⟩
  rcases hr with ⟨h1,m,h2,h3⟩ | ⟨ca,h1,h2,⟨h3,h4⟩ | h3⟩
  ·exact .inl ⟨h1,m,ns' m h2,h3⟩
  ·exact .inr ⟨ca,h1,h2,.inl ⟨g _ h3,cell' _ _ h3 h4⟩⟩
  ·exact .inr ⟨ca,h1,h2,.inr h3⟩
 ·rcases V.stores x hx with h1 | ⟨h1,ca,h2,h3⟩
  ·exact .inl h1
  ·exact .inr ⟨h1,ca,h2,g _ h3⟩
 ·obtain⟨v₀,hv⟩:=V.cells x ca e (g' x ca e q)
  exact⟨v₀,cell' _ _ (g' x ca e q) hv⟩
theorem Vr.heap {G:Nat→Kd} {P:List (Addr×Obj)} {env:Env} {nm ws:List String} {ρ:List AV} {h h':Heap} (V:Vr G P env nm ws ρ h) (k:∀ a o,G a=.var→h.get? a=some o→h'.get? a=some o):Vr G P env nm ws ρ h' :=
 V.step (fun zz e=>e) (fun zz zz zz e=>e) k
end Bm
namespace Bm
open PySem PySem.W PyProof.Rows
inductive TbM where
 | made | fly | held (L:Nat)
inductive TbH (G:Nat→Kd) (h:Heap) (ea:Nat) (vs:Array Value) (q:Value):Prop
 | mk (T:Nat) (oT:Obj) (ts:Array Value) (t1:vs[1]? = some (.ref T)) (t2:G T=.exc) (t3:T≠ea) (t4:h.get? T=some oT) (t5:oT.data=.fields ts) (t6:ts[3]? = some q)
noncomputable def Tb (G:Nat→Kd) (h:Heap) (ea:Nat) (vs:Array Value):TbM→Prop
 | .made=>vs[1]? = some .none
 | .fly=>TbH G h ea vs .none
 | .held L=>TbH G h ea vs (rawInt L)
inductive Fly (G:Nat→Kd) (h:Heap) (ea:Nat) (n:AV) (m:TbM):Prop
 | mk (f1:G ea=.exc) (f2:isInt n=true) (oe:Obj) (vs:Array Value) (dx:Nat) (m':Str→Option Value) (f3:h.get? ea=some oe) (f4:oe.cls=.ref 71) (f5:oe.dict=some dx) (f6:oe.data=.fields vs) (f7:1 < vs.size) (f8:Tb G h ea vs m) (f9:G dx=.dic ea) (f10:h.Ns dx m')
  (f11:∃ x,m' (Str.ofString "nodes")=some x∧VR x n)
theorem Fly.at {G:Nat→Kd} {h:Heap} {ea:Nat} {n:AV} {m:TbM} (F:Fly G h ea n m):G ea=.exc:=let ⟨f,_,_,_,_,_,_,_,_,_,_,_,_,_,_⟩:=F;f
theorem Fly.mv {G G':Nat→Kd} {h:Heap} {ea:Nat} {n:AV} {m:TbM} (F:Fly G h ea n m) (g:∀ a,G a=.exc∨G a=.dic ea→G' a=G a):Fly G' h ea n m:=by
 have e:∀ a x,G a=x→(G a=.exc∨G a=.dic ea)→G' a=x:=fun a x e n=>(g a n).trans e
 obtain⟨f1,f2,oe,vs,dx,md,f3,f4,f5,f6,f7,f8,f9,f10,f11⟩:=F
 have t:∀ q,TbH G h ea vs q→TbH G' h ea vs q:=fun q ⟨T,oT,ts,t1,t2,t3,t4,t5,t6⟩=>⟨T,oT,ts,t1,e _ _ t2 (.inl t2),t3,t4,t5,t6⟩
 exact⟨e _ _ f1 (.inl f1),f2,oe,vs,dx,md,f3,f4,f5,f6,f7,(match m,f8 with | .made,f=>f | .fly,f=>t _ f | .held _,f=>t _ f),e _ _ f9 (.inr f9),f10,f11⟩
noncomputable def Room (A:Around) (d:Nat):Prop:=A.depth+3*d≤900∧A.units+20*d≤9000
inductive RPo (c:Cx) (fr:List Env) (P:List (Addr×Obj)) (Q:EQ) (v:Value) (s':Shared):Prop
 | mk (G:Nat→Kd) (av:AV) (H':AHeap) (nv:∀ a,G a≠.var) (hv:VR v av) (S:StC c G fr P H' s') (q:Q av H')
inductive RPx (c:Cx) (fr:List Env) (P:List (Addr×Obj)) (X:EQ) (e:Value) (s':Shared):Prop
 | mk (G:Nat→Kd) (ea:Nat) (n:AV) (H':AHeap) (nv:∀ a,G a≠.var) (he:e=.ref ea) (S:StC c G fr P H' s') (F:Fly G s'.heap ea n .fly) (x:X n H')
noncomputable def RP (c:Cx) (fr:List Env) (P:List (Addr×Obj)) (Q X:EQ) (r:Result) (s':Shared):Prop:=match r with
 | .ok (.ret v)=>RPo c fr P Q v s'
 | .ok _=>False
 | .error e=>RPx c fr P X e s'
noncomputable def CallOk (c:Cx) (call:CallSem) (d:Nat) (hd:Bool):Prop:=∀ f args H Q X,call f args H Q X→∀ (A:Around) fr P G s vs,(∀ a,G a≠.var)→L2 VR vs args→StC c G fr P H s→Room A d→A.frames=some fr→(hd=false→A.handled=none) →
 codeAny (model c.prog c.w) A (.call (.ref f) ⟨vs,[]⟩) (RP c fr P Q X) s
structure Kx where
 c:Cx
 A:Around
 fr:List Env
 P:List (Addr×Obj)
 env:Env
 nm:List String
 ws:List String
 n:Nat
 hd:Bool
 call:CallSem
 T:Tab
namespace Kx
inductive St (k:Kx) (ρ:List AV) (H:AHeap) (s:Shared):Prop
 | mk (G:Nat→Kd) (S:StC k.c G k.fr k.P H s) (V:Vr G k.P k.env k.nm k.ws ρ s.heap)
inductive RE (k:Kx) (ρ:List AV) (Q:EQ) (v:Value) (s':Shared):Prop
 | mk (av:AV) (H':AHeap) (hv:VR v av) (S:k.St ρ H' s') (q:Q av H')
inductive RB (k:Kx) (ρ:List AV) (Q:Bool→AHeap→Prop) (b:Bool) (s':Shared):Prop
 | mk (H':AHeap) (S:k.St ρ H' s') (q:Q b H')
inductive XE (k:Kx) (ρ:List AV) (X:EQ) (e:Value) (s':Shared):Prop
 | mk (G:Nat→Kd) (ea:Nat) (n:AV) (H':AHeap) (m:TbM) (he:e=.ref ea) (S:StC k.c G k.fr k.P H' s') (V:Vr G k.P k.env k.nm k.ws ρ s'.heap) (F:Fly G s'.heap ea n m) (L:∀ L,m=.held L→k.env.frame=some L) (x:X n H')
end Kx
noncomputable abbrev AttOk (K:Frag) (C:Nat) (n:String):Prop:=plainGet K C (Str.ofString n)=true∧hasDictIn K C=true∧findIn K (.ref C) (Str.ofString n)=some none ∧
 findIn K (.ref C) "__setattr__" = some (some (.builtin "object.__setattr__"))∧plainOver K C=true∧takerIn K C (Str.ofString n)=some none
noncomputable abbrev MthOk (K:Frag) (C:Nat) (n:String) (f:Nat):Prop:=keepIn K (.ref f)=true∧plainGet K C (Str.ofString n)=true∧findIn K (.ref C) (Str.ofString n)=some (some (.ref f))∧typeIn K (.ref f)=some (.type "function")
noncomputable abbrev IniOk (K:Frag) (C f:Nat):Prop:=keepIn K (.ref C)=true∧makesIn K C=true∧findIn K (.ref C) "__init__" = some (some (.ref f))∧typeIn K (.ref f)=some (.type "function")
inductive Glob (c:Cx):Prop
 | mk (mg:Str→Option Value) (m1:c.base.Ns mainGlobals mg) (m2:∀ x i,gint x gInts=some i→∃ t,mg x=some (.int i t)) (m3:∀ x a,gnat x gFns=some a→mg x=some (.ref a)) (m4:∀ x a,gnat x gCls=some a→mg x=some (.ref a))
  (m5:∀ x∈(["len","max","min","abs","list","range"]:List Str),mg x=none) (m6:mg "Exception" = none) (m7:mg "ChessError" = some (.ref 38))
inductive Blt (c:Cx):Prop
 | mk (mb:Str→Option Value) (b1:c.base.Ns builtinsNs mb) (b2:mb "len" = some (.builtin "len")) (b3:mb "max" = some (.builtin "max")) (b4:mb "min" = some (.builtin "min")) (b5:mb "abs" = some (.builtin "abs")) (b6:mb "list" = some (.type "list")) (b7:mb "range" = some (.type "range")) (b8:mb "Exception" = some (.type "Exception"))
structure Fa (c:Cx) (T:Tab) (K:Frag):Prop where
 inK:K.In c.base
 nolim:c.base.NoLimit
 glob:Glob c
 built:Blt c
 att:∀ C n,T.att C n=true→AttOk K C n
 mth:∀ C n f,T.mth C n=some f→MthOk K C n f
 ini:∀ C f,T.ini C=some f→IniOk K C f
 keepF:∀ x a,gnat x gFns=some a→keepIn K (.ref a)=true
 keepC:∀ x a,gnat x gCls=some a→keepIn K (.ref a)=true
 stop:StopOk K
section
variable {k:Kx} {ρ:List AV} {H:AHeap} {s:Shared} {Q X:EQ} {E:Value→Shared→Prop} {A:Around}
theorem Kx.St.of {G:Nat→Kd} (h:StC k.c G k.fr k.P H s∧Vr G k.P k.env k.nm k.ws ρ s.heap):k.St ρ H s:=⟨G,h.1,h.2⟩
theorem Kx.St.toks (S:k.St ρ H s) (tk:Nat):k.St ρ H { s with toks:=tk }:=let ⟨G,a,b⟩:=S;⟨G,a.toks tk,b⟩
theorem re_mk {v:Value} {av:AV} (hv:VR v av) (S:k.St ρ H s) (h:Q av H):k.RE ρ Q v s:=⟨av,H,hv,S,h⟩
theorem re_int {i:Int} (tk:Nat) (S:k.St ρ H s) (h:Q (.int i) H):k.RE ρ Q (.int i s.toks) { s with toks:=tk }:=⟨_,H,.int _ _,S.toks _,h⟩
theorem p_int {i:Int} {a b:Nat} {pos:Pos} (S:k.St ρ H s) (h:Q (.int i) H):wpAny (model k.c.prog k.c.w) A (eval (.Constant (.int i) a pos) k.env) (k.RE ρ Q) E s :=
 wpAny_mkInt (re_int _ S h)
theorem p_none {a:Nat} {pos:Pos} (S:k.St ρ H s) (h:Q .none H):wpAny (model k.c.prog k.c.w) A (eval (.Constant .none a pos) k.env) (k.RE ρ Q) E s:=wpAny_pure (re_mk .none S h)
theorem p_bool {x:Bool} {a:Nat} {pos:Pos} (S:k.St ρ H s) (h:Q (.bool x) H):wpAny (model k.c.prog k.c.w) A (eval (.Constant (.bool x) a pos) k.env) (k.RE ρ Q) E s:=wpAny_pure (re_mk (.bool x) S h)
theorem p_loc {x:Str} {i:Nat} {pos:Pos} (hd:x≠"__debug__") (hc:x≠"__classdict__") (hi:idx x k.nm=some i) (hok:okKind (k.env.kindOf x)=true) (S:k.St ρ H s) (h:defd (lget ρ i) fun v=>Q v H) :
  wpAny (model k.c.prog k.c.w) A (eval (.Name x pos) k.env) (k.RE ρ Q) E s:=by
 obtain⟨G,S1,V⟩:=id S
 obtain⟨hu,hq⟩:=defd_iff.1 h
 obtain⟨v,hr,hv⟩:=V.reads x i hi hok hu
 refine wpAny_Name ?_ (by simpa using hd)
 have hcell:∀ ca,((G ca=.var∧s.heap.IsCell ca (some v))∨∃ o,(ca,o)∈k.P∧o.data=.cell (some v))→s.heap.IsCell ca (some v):=fun ca q=>by
  rcases q with ⟨_,q⟩ | ⟨o,q1,q2⟩
  ·exact q
  ·rcases(S1.pv _ q1).2 with z | ⟨⟨_,es,n,z⟩,_⟩
   ·exact⟨o,z,q2⟩
   ·rw [q2] at z;cases z
 rcases hr with ⟨h1,m,h2,h3⟩ | ⟨ca,h1 | h1,h2,h3⟩
 ·exact wpAny_loadName_local V.fn h1 h2 h3 (re_mk hv S hq)
 ·exact wpAny_loadName_cell V.fn h1 h2 (hcell ca h3) (re_mk hv S hq)
 ·exact wpAny_loadName_free V.fn h1 h2 (hcell ca h3) (re_mk hv S hq) (by simpa using hc)
theorem ns_keep {h:Heap} {a:Addr} {m:Str→Option Value} (hn:k.c.base.Ns a m) {G:Nat→Kd} (S:StC k.c G k.fr k.P H s):s.heap.Ns a m:=hn.keeps fun b o e=>(S.keep b o e).2
theorem p_glob {x:Str} {pos:Pos} {v:Value} (hx:k.env.kindOf x=some .globalImplicit) (hd:x≠"__debug__") {mg:Str→Option Value} (hg:k.c.base.Ns mainGlobals mg) (hv:mg x=some v) (S:k.St ρ H s) {Q':Value→Shared→Prop} (h:Q' v s) :
  wpAny (model k.c.prog k.c.w) A (eval (.Name x pos) k.env) Q' E s:=by
 obtain⟨G,S1,V⟩:=S
 refine Calls.Name_function_global V.fn hx (Calls.loadGlobal_global (mg:=mg) ?_ hv h) (by simpa using hd)
 rw [V.gl];exact hg.keeps fun b o e=>(S1.keep b o e).2
theorem p_built {x:Str} {pos:Pos} {v:Value} (hx:k.env.kindOf x=some .globalImplicit) (hd:x≠"__debug__") {mg mb:Str→Option Value} (hg:k.c.base.Ns mainGlobals mg) (hm:mg x=none) (hb:k.c.base.Ns builtinsNs mb) (hv:mb x=some v) (S:k.St ρ H s) {Q':Value→Shared→Prop} (h:Q' v s) :
  wpAny (model k.c.prog k.c.w) A (eval (.Name x pos) k.env) Q' E s:=by
 obtain⟨G,S1,V⟩:=S
 refine Calls.Name_function_global V.fn hx (Calls.loadGlobal_builtin (mg:=mg) (mb:=mb) ?_ hm ?_ hv h) (by simpa using hd)
 ·rw [V.gl];exact hg.keeps fun b o e=>(S1.keep b o e).2
 ·rw [V.bi];exact hb.keeps fun b o e=>(S1.keep b o e).2
theorem bitOr_pp {x y:Int} (hx:0≤x) (hy:0≤y):Builtin.bitOr x y=((x.toNat ||| y.toNat:Nat):Int):=by
 have e:∀ z:Int,Builtin.bitNot (Builtin.bitNot z)=z:=fun z=>by unfold Builtin.bitNot;lia
 have n:∀ z:Int,0≤z→¬ 0≤Builtin.bitNot z:=fun z hz=>by unfold Builtin.bitNot;lia
 unfold Builtin.bitOr
 rw [bitAnd_nn (n x hx) (n y hy),e,e,e]
theorem p_bin_int {op:Operator} {op':BOp} (hop:bopOf op=some op') {x y:Int} {t u:Tok} (S:k.St ρ H s) (h:vBin op' (.int x) (.int y) H Q):wpAny (model k.c.prog k.c.w) A (binaryOp op (.int x t) (.int y u)) (k.RE ρ Q) E s:=by
 have b64:∀ a:Int,-(2 ^ 62) < a∧a < 2 ^ 62→Builtin.Int.intBits a≤64:=fun a ⟨h1,h2⟩=>intBits_le_64 (by lia) (by lia)
 have h:bInt op' x y fun r=>Q (.int r) H:=match h with | .int q=>q
 cases op <;> cases hop
 ·exact P.add_int (re_int _ S h)
 ·exact P.sub_int (re_int _ S h)
 ·exact P.mul_int (re_int _ S h.2) (IntMulOk.of_left (b64 x h.1))
 ·exact mod_int' h.1 (re_int _ S h.2)
 ·refine lshift_int h.1.2.2.1 ?_ (re_int _ S h.2)
  have:Builtin.Int.intBits x≤200:=PyProof.Rows.intBits_le (by have h1:-(2 ^ 200) < x:=h.1.1;have h2:x < 2 ^ 200:=h.1.2.1;lia)
  have:y≤1000:=h.1.2.2.2
  lia
 ·exact rshift_int h.1 (re_int _ S h.2)
 ·refine or_int (re_int _ S ?_);rw [bitOr_pp h.1.1 h.1.2];exact h.2
 ·refine and_int (re_int _ S ?_);rw [bitAnd_pp h.1.1 h.1.2];exact h.2
 ·exact floordiv_int (by have h1:0 < y:=h.1.1;lia) (re_int _ S h.2) (.inl (PyProof.noPylong_small (by have h1:0 < y:=h.1.1;have h2:y < 1000000000:=h.1.2;lia)))
end
end Bm
namespace Bm
open PySem PySem.W PyProof.Rows
theorem L2.get {l:List Value} {m:List AV} (h:L2 VR l m):∀ {i:Nat},i < m.length→∃ v,l[i]? = some v∧VR v (lget m i):=by
 induction h with
 | nil=>intro i hi;cases hi
 | cons r _ ih =>
  intro i hi
  cases i with
  | zero=>exact⟨_,rfl,r⟩
  | succ i=>exact ih (Nat.lt_of_succ_lt_succ hi)
theorem L2.set {l:List Value} {m:List AV} (h:L2 VR l m) {v:Value} {w:AV} (hv:VR v w):∀ i:Nat,L2 VR (l.set i v) (lset m i w):=by
 induction h with
 | nil=>intro i;exact .nil
 | cons r t ih =>
  intro i
  cases i with
  | zero=>exact .cons hv t
  | succ i=>exact .cons r (ih i)
theorem L2.replicate {v:Value} {w:AV} (hv:VR v w):∀ n:Nat,L2 VR (List.replicate n v) (List.replicate n w)
 | 0=>.nil
 | n+1=>.cons hv (L2.replicate hv n)
theorem L2.eraseIdx {l:List Value} {m:List AV} (h:L2 VR l m):∀ i:Nat,L2 VR (l.eraseIdx i) (m.eraseIdx i):=by
 induction h with
 | nil=>intro i;exact .nil
 | cons r t ih =>
  intro i
  cases i with
  | zero=>exact t
  | succ i=>exact .cons r (ih i)
theorem L2.reverse {l:List Value} {m:List AV} (h:L2 VR l m):L2 VR l.reverse m.reverse:=by
 induction h with
 | nil=>exact .nil
 | cons r t ih=>simp only [List.reverse_cons];exact ih.append (.cons r .nil)
theorem L2.take {l:List Value} {m:List AV} (h:L2 VR l m):∀ n,L2 VR (l.take n) (m.take n):=by
 induction h with
 | nil=>intro n;simp;exact .nil
 | cons r t ih=>intro n;cases n with
  | zero=>exact .nil
  | succ n=>exact .cons r (ih n)
section
variable {k:Kx} {ρ:List AV} {H:AHeap} {s:Shared} {Q X:EQ} {E:Value→Shared→Prop} {A:Around}
theorem St_newL (S:k.St ρ H s) {arr:Array Value} {xs:List AV} (hx:L2 VR arr.toList xs) (hz:arr.size≤lim) (tk:Nat) (h:∀ a,H a=none→Q (.ref a) (upd H a (.list xs))) :
  k.RE ρ Q (.ref s.heap.objs.size) { s with heap:=s.heap.push (listObj arr 0),toks:=tk }:=by
 obtain⟨G,S1,V⟩:=S
 refine⟨.ref s.heap.objs.size,_,.ref _,⟨_,S1.alloc tk (ao:=.list xs) ⟨arr,0,Heap.get?_push_size _ rfl,hx,hz⟩,V.step (fun a ha=>by rw [gset_ne (fun q=>by rw [q,S1.freeAt] at ha;cases ha),ha]) (fun x ca zz e=>by by_cases q:ca=s.heap.objs.size;(rw [q,gset_eq] at e;cases e);(rwa [gset_ne q] at e)) (fun a o zz e=>Heap.get?_push_of_some _ e)⟩,h _ S1.hnone⟩
theorem St_newT (S:k.St ρ H s) {arr:Array Value} {xs:List AV} (hx:L2 VR arr.toList xs) (hz:arr.size≤lim) (tk:Nat) (h:∀ a,H a=none→Q (.ref a) (upd H a (.tup xs))) :
  k.RE ρ Q (.ref s.heap.objs.size) { s with heap:=s.heap.push (tupObj arr 0),toks:=tk }:=by
 obtain⟨G,S1,V⟩:=S
 refine⟨.ref s.heap.objs.size,_,.ref _,⟨_,S1.alloc tk (ao:=.tup xs) ⟨arr,0,Heap.get?_push_size _ rfl,hx,hz⟩,V.step (fun a ha=>by rw [gset_ne (fun q=>by rw [q,S1.freeAt] at ha;cases ha),ha]) (fun x ca zz e=>by by_cases q:ca=s.heap.objs.size;(rw [q,gset_eq] at e;cases e);(rwa [gset_ne q] at e)) (fun a o zz e=>Heap.get?_push_of_some _ e)⟩,h _ S1.hnone⟩
theorem St_garb (S:k.St ρ H s) (o:Obj) (tk:Nat):k.St ρ H { s with heap:=s.heap.push o,toks:=tk }:=by
 obtain⟨G,S1,V⟩:=S
 exact⟨G,S1.garbage o tk,V.heap (fun a o zz e=>Heap.get?_push_of_some _ e)⟩
theorem St_grow (S:k.St ρ H s) {h':Heap} {tk:Nat} (hk:∀ b o,s.heap.get? b=some o→h'.get? b=some o):k.St ρ H { s with heap:=h',toks:=tk }:=by
 obtain⟨G,S1,V⟩:=S
 exact⟨G,S1.grow hk,V.heap (fun a o zz e=>hk a o e)⟩
theorem St_putL (S:k.St ρ H s) {l:Nat} {ao:AO} (hl:H l=some ao) {f:Obj→Obj} {o:Obj} (tk:Nat) {arr:Array Value} {n:Nat} {xs:List AV} (ho:s.heap.get? l=some o) (hf:f o=listObj arr n) (hx:L2 VR arr.toList xs) (hz:arr.size≤lim) (hk:kd ao=.obj:=by rfl) :
  k.St ρ (upd H l (.list xs)) { s with heap:=s.heap.update l f,toks:=tk }:=by
 obtain⟨G,S1,V⟩:=S
 have g:=(S1.hv l ao hl).1.trans hk
 refine⟨G,S1.put g (Heap.SameBut.update ..) ⟨arr,n,?_,hx,hz⟩,V.heap fun a o' ha e=>(Heap.get?_update_other _ _ fun q=>?_).trans e⟩
 ·rw [Heap.get?_update_self f ho (by rw [hf];rfl),hf]
 ·subst q;rw [g] at ha;cases ha
theorem lim_line {n:Nat} (h:n≤lim):n≤sizeLine:=by unfold lim at h;rw [sizeLine_eq];omega
theorem St_seq {f:Array Value→Nat→Obj} {l:Nat} {xs:List AV} {ao:AO} (S:k.St ρ H s) (hl:H l=some ao) (ho:∀ G,Ob k.c G s.heap l ao→ObSeq f s.heap l xs) {C:Prop} (kk:∀ arr n,s.heap.get? l=some (f arr n)→L2 VR arr.toList xs→arr.size=xs.length→xs.length≤lim→C):C:=by
 obtain⟨G,S1,V⟩:=S
 obtain⟨arr,n,ho,hx,hz⟩:=ho G (S1.hv l _ hl).2
 have e:arr.size=xs.length:=hx.length
 exact kk arr n ho hx e (e ▸ hz)
theorem St_list {l:Nat} {xs:List AV} (S:k.St ρ H s) (hl:H l=some (.list xs)) {C:Prop} (kk:∀ arr n,s.heap.get? l=some (listObj arr n)→L2 VR arr.toList xs→arr.size=xs.length→xs.length≤lim→C):C:=St_seq S hl (fun zz h=>h) kk
theorem St_tup {l:Nat} {xs:List AV} (S:k.St ρ H s) (hl:H l=some (.tup xs)) {C:Prop} (kk:∀ arr n,s.heap.get? l=some (tupObj arr n)→L2 VR arr.toList xs→arr.size=xs.length→xs.length≤lim→C):C:=St_seq S hl (fun zz h=>h) kk
theorem p_truthy {v:Value} {x:AV} {F:Bool→Prop} {E:Value→Shared→Prop} (hv:VR v x) (S:k.St ρ H s) (h:truthy x H F) {Q':Bool→Shared→Prop} (kk:∀ b s',k.St ρ H s'→F b→Q' b s'):wpAny (model k.c.prog k.c.w) A (PySem.truthy v) Q' E s:=by
 cases h with
 | none q=>cases hv;exact fun zz zz zz=>kk _ _ S q
 | bool q=>cases hv;exact wpAny_truthy_bool (kk _ _ S q)
 | @int i q=>exact hv.eInt fun t=>P.truthy_int (kk _ _ S ((show(i != 0)=decide (i≠0) from Bool.eq_iff_iff.2 (bne_iff_ne.trans (decide_eq_true_iff).symm)) ▸ q))
 | @ref l xs hl q=>exact hv.eRef (St_list S hl fun arr n ho hx hs hz=>wpAny_truthy_list (PySem.IsL.isList (n:=n) ho) (by rw [hs];exact Int.lt_of_le_of_lt (Int.ofNat_le.2 hz) (by decide)) (kk _ _ (S.toks _) ((show arr.isEmpty=xs.isEmpty by rw [Array.isEmpty,hs];cases xs <;> rfl) ▸ q)))
theorem p_add_list {l m:Nat} {xs ys:List AV} (S:k.St ρ H s) (hl:H l=some (.list xs)) (hm:H m=some (.list ys)) (hz:xs.length+ys.length≤lim) (h:∀ a,H a=none→Q (.ref a) (upd H a (.list (xs++ys)))):wpAny (model k.c.prog k.c.w) A (binaryOp .Add (.ref l) (.ref m)) (k.RE ρ Q) E s :=
 St_list S hl fun arr n ho hx e1 zz=>St_list S hm fun arr2 n2 ho2 hx2 e2 zz =>
  have hsz:arr.size+arr2.size≤lim:=by rw [e1,e2];exact hz
  P.add_list ho ho2 (St_newL S (by rw [Array.toList_append];exact hx.append hx2) (by rw [Array.size_append];exact hsz) _ h) (lim_line hsz)
theorem foldl_rep (x:Value):∀ (n:Nat) (acc:Array Value),(List.foldl (fun x1 x2=>x1++x2) acc (List.replicate n #[x])).toList=acc.toList++List.replicate n x
 | 0,acc=>by simp
 | n+1,acc=>by rw [List.replicate_succ,List.foldl_cons,foldl_rep x n];simp [List.replicate_succ]
set_option tactic.hygienic true in
theorem p_mul_list {l:Nat} {z:AV} {x:Int} {t:Tok} (S:k.St ρ H s) (hl:H l=some (.list [z])) (hb:0≤x∧x≤1000) (h:∀ a,H a=none→Q (.ref a) (upd H a (.list (List.replicate x.toNat z)))):wpAny (model k.c.prog k.c.w) A (binaryOp .Mult (.ref l) (.int x t)) (k.RE ρ Q) E s:=by
 refine St_list S hl fun arr n ho hx zz zz=>?_
 obtain⟨arr⟩:=arr
 cases hx with
 | @cons v _ _ _ r t' =>
  cases t'
  have hn:x.toNat≤1000:=Int.toNat_le.mpr hb.2
  have lt:∀ s':Shared,s'.heap.get? l=some (listObj #[v] n)→s'.TypeIs (.ref l) "list":=fun s' e=>⟨_,e,rfl⟩
  refine wpAny_binaryOp_repeat_ref (T:="list") (U:="int") (by decide) (lt s ho) (fun s'=>typeIs_int s' x t) noFill_list_mul F.fills_int_mul F.slot_int_rmul repeat_list F.slot_int_index.lookup ?_
  refine call_meets F.slot_int_rmul (typeIs_int s x t) F.entry_int_rmul (F.args_int_rmul_2 _ _) (int___rmul___int_list x t l #[v] n) ⟨ho,rfl,lt s ho,?_⟩
  refine call_meets F.slot_list_mul (lt s ho) F.entry_list_mul (F.args_list_mul_2 _ _) (AutoListH.list___mul___list_int_3 l #[v] n x t ?_ ?_ ?_) ⟨ho,St_newL S ?_ ?_ _ h⟩
  ·simp [Builtin.List.listFitsIndex];omega
  ·simp;omega
  ·simp [Builtin.List.listTooLong,sizeLine];omega
  ·rw [show(#[v]:Array Value).isEmpty=false from rfl,foldl_rep];exact L2.replicate r _
  ·rw [show(#[v]:Array Value).isEmpty=false from rfl,← Array.length_toList,foldl_rep];show(List.replicate x.toNat v).length≤lim;rw [List.length_replicate];exact Nat.le_trans hn (by decide)
theorem p_neg {v:Value} {x:AV} (h:isI x fun i=>Q (.int (-i)) H) (hv:VR v x) (S:k.St ρ H s):wpAny (model k.c.prog k.c.w) A (unaryOp .USub v) (k.RE ρ Q) E s :=
 VR.isI h hv fun i t q=>P.neg_int (re_int _ S q)
theorem hs_tail (slice:Expr) (o i:Value):∃ ops,subscripted slice false o i=operate ops (getItem o i):=by
 cases slice with
 | Slice a b c d=>cases c <;> exact⟨_,rfl⟩
 | _=>exact⟨_,rfl⟩
@[elab_as_elim] theorem place_e {i:Int} {n j:Nat} {C:Nat→Prop} (h:place i n=some j) (k1:0≤i→i < n→C i.toNat) (k2:¬ 0≤i→-(n:Int)≤i→C (i+n).toNat):C j:=by
 unfold place at h
 by_cases h0:0≤i
 ·rw [if_pos h0] at h
  by_cases h1:i < n
  ·rw [if_pos h1] at h;exact Option.some.inj h ▸ k1 h0 h1
  ·rw [if_neg h1] at h;exact nomatch h
 ·rw [if_neg h0] at h
  by_cases h1:-(n:Int)≤i
  ·rw [if_pos h1] at h;exact Option.some.inj h ▸ k2 h0 h1
  ·rw [if_neg h1] at h;exact nomatch h
theorem place_lt {i:Int} {n j:Nat} (h:place i n=some j):j < n:=place_e h (fun a b=>by omega) fun a b=>by omega
theorem place_b {i:Int} {n j:Nat} (h:place i n=some j) (hz:n≤1000000):-1000000≤i∧i≤1000000:=place_e (C:=fun zz=>-1000000≤i∧i≤1000000) h (fun a b=>⟨by omega,by omega⟩) fun a b=>⟨by omega,by omega⟩
theorem place_seq {i:Int} {n j:Nat} (h:place i n=some j):seqIndex? i n=some j:=by
 unfold seqIndex?
 dsimp only
 refine place_e h (fun a b=>?_) fun a b=>?_
 ·rw [if_neg (Int.not_lt.mpr a)];simp [a,b]
 ·rw [if_pos (Int.not_le.mp a)]
  have h2:0≤i+n:=by omega
  have h3:i+n < n:=by omega
  simp [h2,h3]
set_option tactic.hygienic true in
theorem p_idx {value slice:Expr} {o i:Value} {x y:AV} (hx:VR o x) (hy:VR i y) (S:k.St ρ H s) (h:vIdx x y H fun v=>Q v H):wpAny (model k.c.prog k.c.w) A (subscriptTail value slice o i) (k.RE ρ Q) E s:=by
 cases h with
 | @list l i xs j hl hp q =>
  refine hx.eRef (hy.eInt fun t=>St_list S hl fun arr n ho hxs e hz=>?_)
  obtain⟨ops,hs⟩:=hs_tail slice (.ref l) (.int i t)
  obtain⟨v,hv,hr⟩:=hxs.get (place_lt hp)
  have hl':s.heap.IsList l arr:=PySem.IsL.isList (n:=n) ho
  rw [Array.getElem?_toList] at hv
  have hz':xs.length≤1000000:=hz
  refine tail_any hl'.typeIs slot_list_getitem.lookup ?_ hs
  refine place_e (C:=fun j=>arr[j]? = some v→_) hp (fun a b hv=>wpAny_getItem_list hl' a (by omega) hv (re_mk hr S q)) (fun a b hv=>wpAny_getItem_list_neg hl' (Int.not_le.mp a) (by rw [e];exact b) (by omega) (by rw [e];exact hv) (re_mk hr S q)) hv
 | @tup l i xs j hl hp q =>
  refine hx.eRef (hy.eInt fun t=>St_tup S hl fun arr n ho hxs e hz=>?_)
  obtain⟨ops,hs⟩:=hs_tail slice (.ref l) (.int i t)
  obtain⟨v,hv,hr⟩:=hxs.get (place_lt hp)
  rw [Array.getElem?_toList] at hv
  have hl':IsTup s.heap l arr:=⟨_,ho,rfl,n,rfl⟩
  have b:=place_b hp hz
  exact tail_any hl'.typeIs slot_tuple_getitem.lookup (getItem_tuple hl' (by omega) (by omega) (by rw [e];exact place_seq hp) hv (re_mk hr S q)) hs
end
end Bm
namespace Bm
open PySem PySem.W PyProof.Rows PySem.SeqAt PySem.MeetsSeq
theorem eqL_some {f:AV→AV→Option Bool} {xs:List AV}:∀ {ys:List AV} {b:Bool},eqL f xs ys=some b→∀ {C:Prop},
  (∀ e:Nat→Bool,(∀ j,j < xs.length→j < ys.length→f (lget xs j) (lget ys j)=some (e j))→b=((List.range (min xs.length ys.length)).all e&&xs.length == ys.length)→C)→C:=by
 induction xs with
 | nil =>
  intro ys b h C k
  refine k (fun zz=>true) (fun j hj=>absurd hj (Nat.not_lt_zero _)) ?_
  cases ys with
  | nil=>exact(Option.some.inj h).symm
  | cons=>exact(Option.some.inj h).symm
 | cons x xs ih =>
  intro ys b h C k
  cases ys with
  | nil=>exact k (fun zz=>true) (fun j zz hj=>absurd hj (Nat.not_lt_zero _)) (Option.some.inj h).symm
  | cons y ys =>
   have h:((f x y).bind fun p=>(eqL f xs ys).map fun q=>p&&q)=some b:=h
   cases hp:f x y with
   | none=>rw [hp] at h;exact nomatch h
   | some p =>
    rw [hp] at h
    cases hq:eqL f xs ys with
    | none=>rw [hq] at h;exact nomatch h
    | some q =>
     rw [hq] at h
     refine ih hq fun g g1 g2=>k (fun j=>Nat.rec p (fun j zz=>g j) j) (fun j=>Nat.rec (fun zz zz=>hp) (fun j zz hj hj'=>g1 j (Nat.lt_of_succ_lt_succ hj) (Nat.lt_of_succ_lt_succ hj')) j) ?_
     have hm:min (x::xs).length (y::ys).length=min xs.length ys.length+1:=Nat.succ_min_succ ..
     have hl:((x::xs).length == (y::ys).length)=(xs.length == ys.length):=Bool.eq_iff_iff.2 (by rw [beq_iff_eq,beq_iff_eq];exact Nat.succ_inj)
     rw [← Option.some.inj h,g2,hm,hl,List.range_succ_eq_map,List.all_cons,List.all_map,Bool.and_assoc];rfl
theorem eqI_of {x y:AV} {r:Nat→Nat→Option Bool} {b:Bool} (h:eqI x y r=some b) {C:AV→AV→Bool→Prop} (k1:∀ i j,C (.int i) (.int j) (decide (i=j))) (k2:∀ l m,r l m=some b→C (.ref l) (.ref m) b):C x y b:=by
 cases x with
 | int i=>cases y with
  | int j=>exact Option.some.inj h ▸ k1 i j
  | _=>exact nomatch h
 | ref l=>cases y with
  | ref m=>exact k2 l m h
  | _=>exact nomatch h
 | _=>exact nomatch h
theorem eqC_of {H:AHeap} {l m:Nat} {f:List AV→List AV→Option Bool} {b:Bool} (h:eqC H l m f=some b) {C:Prop} (k1:∀ xs ys,f xs ys=some b→H l=some (.list xs)→H m=some (.list ys)→C) (k2:∀ xs ys,f xs ys=some b→H l=some (.tup xs)→H m=some (.tup ys)→C):C:=by
 have h:(match H l with | some (.list xs)=>(match H m with | some (.list ys)=>f xs ys | _=>none) | some (.tup xs)=>(match H m with | some (.tup ys)=>f xs ys | _=>none) | _=>none)=some b:=h
 cases hl:H l with
 | none=>rw [hl] at h;exact nomatch h
 | some x =>
  rw [hl] at h
  cases hm:H m with
  | none=>rw [hm] at h;cases x <;> exact nomatch h
  | some y =>
   rw [hm] at h
   cases x with
   | list xs=>cases y with
    | list ys=>exact k1 xs ys h hl hm
    | _=>exact nomatch h
   | tup xs=>cases y with
    | tup ys=>exact k2 xs ys h hl hm
    | _=>exact nomatch h
   | _=>exact nomatch h
theorem eqL_self {f:AV→AV→Option Bool} (hf:∀ x b,f x x=some b→b=true) {xs:List AV}:∀ {b:Bool},eqL f xs xs=some b→b=true:=by
 induction xs with
 | nil=>exact fun h=>(Option.some.inj h).symm
 | cons x xs ih =>
  intro b h
  have h:((f x x).bind fun p=>(eqL f xs xs).map fun q=>p&&q)=some b:=h
  cases hp:f x x with
  | none=>rw [hp] at h;exact nomatch h
  | some p =>
   rw [hp] at h
   cases hq:eqL f xs xs with
   | none=>rw [hq] at h;exact nomatch h
   | some q=>rw [hq] at h;rw [← Option.some.inj h,hf x p hp,ih hq];rfl
theorem eqA_self {n:Nat} {H:AHeap}:∀ {l:Nat} {b:Bool},eqA n H (.ref l) (.ref l)=some b→b=true:=by
 induction n with
 | zero=>exact fun h=>nomatch h
 | succ n ih =>
  intro l b h
  have self:∀ x b,eqA n H x x=some b→b=true:=fun x b h=>by
   cases x with
   | ref l=>exact ih h
   | int i=>cases n <;> exact(Option.some.inj h).symm.trans (decide_eq_true rfl)
   | _=>cases n <;> exact nomatch h
  refine eqC_of h (fun xs ys h h1 h2=>?_) (fun xs ys h h1 h2=>?_) <;> rw [h1] at h2 <;> cases h2 <;> exact eqL_self self h
theorem int_beq (a b:Int):(a == b)=decide (a=b):=rfl
theorem eqA_seq {c:Cx} {G:Nat→Kd} {fr:List Env} {P:List (Addr×Obj)} {H:AHeap} {s:Shared} (S:StC c G fr P H s) {n:Nat} {A:Around} {l m:Nat} {b:Bool}
  (ih:∀ {x y:AV} {v w:Value} {b:Bool},eqA n H x y=some b→VR v x→VR w y→EqAt A.in1 s v w b) (h:eqC H l m (eqL (eqA n H))=some b) (hu:A.units < cLine) :
  RcAt A s (.ref l) (.ref m) b∧RcNeAt A s (.ref l) (.ref m) (!b):=by
 have items:∀ {arr arr2:Array Value} {xs ys:List AV},L2 VR arr.toList xs→L2 VR arr2.toList ys→eqL (eqA n H) xs ys=some b→∀ {C:Prop},
   (∀ e:Nat→Bool,(∀ j (h1:j < arr.size) (h2:j < arr2.size),EqAt A.in1 s arr[j] arr2[j] (e j))→b=((List.range (min arr.size arr2.size)).all e&&arr.size == arr2.size)→C)→C:=by
  intro arr arr2 xs ys hx hy he C k
  have e1:arr.size=xs.length:=hx.length;have e2:arr2.size=ys.length:=hy.length
  refine eqL_some he fun g g1 g2=>k g (fun j h1 h2=>?_) (by rw [e1,e2];exact g2)
  obtain⟨a1,b1,r1⟩:=hx.get (i:=j) (e1 ▸ h1)
  obtain⟨a2,b2,r2⟩:=hy.get (i:=j) (e2 ▸ h2)
  have z:∀ {arr:Array Value} {a:Value} (h:j < arr.size),arr.toList[j]? = some a→a=arr[j]:=fun h b=>Option.some.inj (b.symm.trans ((Array.getElem?_toList ..).trans (Array.getElem?_eq_getElem h)))
  exact z h1 b1 ▸ z h2 b2 ▸ ih (g1 j (e1 ▸ h1) (e2 ▸ h2)) r1 r2
 refine eqC_of h (fun xs ys h hl hm=>?_) (fun xs ys h hl hm=>?_)
 ·obtain⟨arr,n1,ho,hx,hz⟩:=(S.hv l _ hl).2
  obtain⟨arr2,n2,ho2,hx2,hz2⟩:=(S.hv m _ hm).2
  refine items hx hx2 h fun e e1 e2=>?_
  have i1:s.heap.IsList l arr:=PySem.IsL.isList (n:=n1) ho
  have i2:s.heap.IsList m arr2:=PySem.IsL.isList (n:=n2) ho2
  by_cases hs:arr.size=arr2.size
  ·rw [e2,← hs,Nat.min_self,beq_self_eq_true,Bool.and_true]
   exact⟨RcAt.lists i1 i2 hs hu e1,RcNeAt.lists i1 i2 hs hu e1⟩
  ·rw [e2,beq_eq_false_iff_ne.mpr hs,Bool.and_false]
   exact⟨RcAt.lists_lengths i1 i2 (bne_iff_ne.2 hs) hu,RcNeAt.lists_lengths i1 i2 (bne_iff_ne.2 hs) hu⟩
 ·obtain⟨arr,n1,ho,hx,hz⟩:=(S.hv l _ hl).2
  obtain⟨arr2,n2,ho2,hx2,hz2⟩:=(S.hv m _ hm).2
  refine items hx hx2 h fun e e1 e2=>?_
  rw [e2]
  exact⟨RcAt.tuples ⟨_,ho,rfl,n1,rfl⟩ ⟨_,ho2,rfl,n2,rfl⟩ hu e1,RcNeAt.tuples ⟨_,ho,rfl,n1,rfl⟩ ⟨_,ho2,rfl,n2,rfl⟩ hu e1⟩
theorem int2_of {x y:AV} {Q:Int→Int→Prop} (h:int2 x y Q) {C:AV→AV→Prop} (k:∀ a b,Q a b→C (.int a) (.int b)):C x y:=by
 cases x with
 | int a=>cases y with
  | int b=>exact k a b h
  | _=>exact h.elim
 | _=>exact h.elim
@[elab_as_elim] theorem VR.e2 {v w:Value} {i j:Int} {C:Value→Value→Prop} (hv:VR v (.int i)) (hw:VR w (.int j)) (k:∀ t u,C (.int i t) (.int j u)):C v w:=hv.eInt fun t=>hw.eInt (k t)
@[elab_as_elim] theorem int2_e {x y:AV} {F:Int→Int→Prop} {v w:Value} {C:Value→Value→Prop} (h:int2 x y F) (hv:VR v x) (hw:VR w y) (k:∀ i j t u,F i j→C (.int i t) (.int j u)):C v w :=
 int2_of h (C:=fun x y=>VR v x→VR w y→C v w) (fun a b f hv hw=>hv.e2 hw fun t u=>k a b t u f) hv hw
theorem eqA_at {c:Cx} {G:Nat→Kd} {fr:List Env} {P:List (Addr×Obj)} {H:AHeap} {s:Shared} (S:StC c G fr P H s) {n:Nat}:∀ {A:Around} {x y:AV} {v w:Value} {b:Bool},eqA n H x y=some b→VR v x→VR w y→A.units+n < cLine→EqAt A s v w b:=by
 induction n with
 | zero=>exact fun {A x y v w b} h hv hw zz=>eqI_of h (C:=fun x y b=>VR v x→VR w y→EqAt A s v w b) (fun i j hv hw=>hv.e2 hw fun zz zz=>(EqGives.int i j _ _).at _ s) (fun l m h=>nomatch h) hv hw
 | succ n ih =>
  refine fun {A x y v w b} h hv hw hu=>eqI_of h (C:=fun x y b=>VR v x→VR w y→EqAt A s v w b) (fun i j hv hw=>hv.e2 hw fun zz zz=>(EqGives.int i j _ _).at _ s) (fun l m h hv hw=>hv.eRef (hw.eRef ?_)) hv hw
  by_cases hlm:l=m
  ·rw [hlm] at h ⊢
   rw [eqA_self (n:=n+1) h];exact EqAt.same _
  ·exact EqAt.of_refs hlm (eqA_seq S (fun e r1 r2=>ih e r1 r2 (by rw [Nat.add_right_comm];exact hu)) h (Nat.lt_of_le_of_lt (Nat.le_add_right ..) hu)).1
section
variable {k:Kx} {ρ:List AV} {H:AHeap} {s:Shared} {E:Value→Shared→Prop} {A:Around}
noncomputable def inB (i:Int):Value→Bool
 | .int j _=>decide (j=i)
 | _=>false
theorem inB_VR {v:Value} {x:AV} (r:VR v x) (h:isInt x=true) {i:Int} {C:Value→Bool→Bool→Prop} (k:∀ j t,C (.int j t) (decide (j=i)) (decide (j=i))):C v (inB i v) (isThe i x):=by
 cases r with
 | int j t=>exact k j t
 | _=>cases h
theorem listInt {l:List Value} {xs:List AV} (hx:L2 VR l xs):xs.all isInt=true→∀ y∈l,∃ j t,y=.int j t:=by
 induction hx with
 | nil=>exact fun zz zz h=>nomatch h
 | cons r _ ih =>
  intro hall y hy
  rw [List.all_cons,Bool.and_eq_true] at hall
  cases hy with
  | head=>exact inB_VR r hall.1 (i:=0) (C:=fun v zz zz=>∃ j t,v=.int j t) fun j t=>⟨j,t,rfl⟩
  | tail _ hy=>exact ih hall.2 y hy
theorem EqGives_inB {y:Value} {i:Int} {u:Tok} (h:∃ j t,y=.int j t):EqGives y (.int i u) (inB i y):=by
 obtain⟨j,t,e⟩:=h
 rw [e];exact EqGives.int j i t u
theorem listIn {i:Int} {l:List Value} {xs:List AV} (hx:L2 VR l xs):xs.all isInt=true→l.any (inB i)=xs.any (isThe i):=by
 induction hx with
 | nil=>exact fun zz=>rfl
 | cons r _ ih =>
  intro hall
  rw [List.all_cons,Bool.and_eq_true] at hall
  rw [List.any_cons,List.any_cons,ih hall.2]
  exact inB_VR r hall.1 (C:=fun zz a b=>(a||_)=(b||_)) fun zz zz=>rfl
theorem inList_of {x y:AV} {Q:Bool→Prop} (h:inList x y H Q) {C:AV→AV→Prop} (k:∀ i l xs,H l=some (.list xs)→xs.all isInt=true→Q (xs.any (isThe i))→C (.int i) (.ref l)):C x y:=by
 cases x with
 | int i =>
  obtain⟨h1,h2⟩:=h
  exact k i _ _ h1 h2.1 h2.2
 | _=>exact h.elim
theorem eqA_cases {x y:AV} {F:Bool→Prop} (h:match eqA 4 H x y with | some b=>F b | none=>False) {C:AV→AV→Prop} (k1:∀ i j,F (decide (i=j))→C (.int i) (.int j)) (k2:∀ l m b,eqC H l m (eqL (eqA 3 H))=some b→F b→C (.ref l) (.ref m)):C x y:=by
 cases hb:eqA 4 H x y with
 | none=>rw [hb] at h;exact h.elim
 | some b=>rw [hb] at h;exact eqI_of hb (C:=fun x y b=>F b→C x y) (fun i j=>k1 i j) (fun l m e f=>k2 l m _ e f) h
theorem isN_of {x y:AV} {F:Bool→Prop} {C:Value→Value→Prop} {v w:Value} (h:match y with | .none=>isNone x F | _=>False) (hv:VR v x) (hw:VR w y) (k1:F true→C .none .none) (k2:∀ v,v≠.none→PySem.plainIs v .none=true→F false→C v .none):C v w:=by
 cases hw with
 | none=>cases hv with
  | none=>exact k1 h
  | undef=>exact h.elim
  | _=>exact k2 _ (fun q=>nomatch q) rfl h
 | _=>exact h.elim
theorem p_cmp {op:CmpOp} {op':COp} (hop:copOf op=op') {v w:Value} {x y:AV} {Q:Bool→Prop} (hv:VR v x) (hw:VR w y) (hu:A.units+10 < cLine) (S:k.St ρ H s) (h:vCmp op' x y H Q) {Q':Value→Shared→Prop} (rb:∀ b,Q b→Q' (.bool b) s) :
  wpAny (model k.c.prog k.c.w) A (compareOp op v w) Q' E s:=by
 obtain⟨G,S1,V⟩:=S
 have hu0:A.units < cLine:=Nat.lt_of_le_of_lt (Nat.le_add_right ..) hu
 have eq:∀ {l m b},eqC H l m (eqL (eqA 3 H))=some b→RcAt A s (.ref l) (.ref m) b∧RcNeAt A s (.ref l) (.ref m) (!b):=fun e =>
  eqA_seq S1 (fun e r1 r2=>eqA_at S1 e r1 r2 (Nat.lt_of_le_of_lt (Nat.add_le_add_left (m:=9) (by decide) _) (by rw [show A.in1.units=A.units+1 from rfl,Nat.add_assoc];exact hu))) e hu0
 have I:∀ {F:Int→Int→Prop},int2 x y F→∀ {o},(∀ a b t u,F a b→wpAny (model k.c.prog k.c.w) A (compareOp o (.int a t) (.int b u)) Q' E s)→wpAny (model k.c.prog k.c.w) A (compareOp o v w) Q' E s:=fun {F} h {o} kk=>int2_of h (C:=fun x y=>VR v x→VR w y→wpAny (model k.c.prog k.c.w) A (compareOp o v w) Q' E s) (fun a b f hv hw=>hv.e2 hw fun t u=>kk a b t u f) hv hw
 have N:∀ {F:Bool→Prop},inList x y H F→∀ {o},(∀ i t l arr,s.heap.IsList l arr→(∀ y,y∈arr→EqAt A.in1 s y (.int i t) (inB i y))→F (arr.any (inB i))→wpAny (model k.c.prog k.c.w) A (compareOp o (.int i t) (.ref l)) Q' E s)→wpAny (model k.c.prog k.c.w) A (compareOp o v w) Q' E s:=fun {F} h {o} kk =>
  inList_of h (C:=fun x y=>VR v x→VR w y→wpAny (model k.c.prog k.c.w) A (compareOp o v w) Q' E s) (fun i l xs hl h1 h2 hv hw=>hv.eInt fun t=>hw.eRef (by
   obtain⟨arr,n,ho,hx,hz⟩:=(S1.hv l _ hl).2
   exact kk i t l arr (PySem.IsL.isList (n:=n) ho) (fun y hy=>(EqGives_inB (listInt hx h1 y (Array.mem_toList_iff.2 hy))).at A.in1 s) (by rw [← Array.any_toList,listIn hx h1];exact h2))) hv hw
 have R:∀ {F:Bool→Prop},(match eqA 4 H x y with | some b=>F b | none=>False)→∀ {o},(∀ i j t u,F (decide (i=j))→wpAny (model k.c.prog k.c.w) A (compareOp o (.int i t) (.int j u)) Q' E s)→(∀ l m b,eqC H l m (eqL (eqA 3 H))=some b→F b→wpAny (model k.c.prog k.c.w) A (compareOp o (.ref l) (.ref m)) Q' E s)→wpAny (model k.c.prog k.c.w) A (compareOp o v w) Q' E s:=fun {F} h {o} k1 k2 =>
  eqA_cases h (C:=fun x y=>VR v x→VR w y→wpAny (model k.c.prog k.c.w) A (compareOp o v w) Q' E s) (fun i j f hv hw=>hv.e2 hw fun t u=>k1 i j t u f) (fun l m b e f hv hw=>hv.eRef (hw.eRef (k2 l m b e f))) hv hw
 cases hop
 cases op with
 | Eq=>exact R h (fun i j t u f=>P.eq_int (rb _ f)) fun l m b e f=>(eq e).1 _ _ _ _ (rb _ f)
 | NotEq=>exact R (F:=fun b=>Q (!b)) h (fun i j t u f=>P.ne_int (rb _ f)) fun l m b e f=>(eq e).2 _ _ _ _ (rb _ f)
 | Lt=>exact I h fun a b t u f=>P.lt_int (rb _ f)
 | LtE=>exact I h fun a b t u f=>P.le_int (rb _ f)
 | Gt=>exact I h fun a b t u f=>P.gt_int (rb _ f)
 | GtE=>exact I h fun a b t u f=>P.ge_int (rb _ f)
 | Is=>exact isN_of (x:=x) (F:=Q) (C:=fun v w=>wpAny (model k.c.prog k.c.w) A (compareOp .Is v w) Q' E s) h hv hw (fun f=>wpAny_is_self rfl (rb _ f)) fun v n p f=>wpAny_is_other p n (rb _ f)
 | IsNot=>exact isN_of (x:=x) (F:=fun b=>Q (!b)) (C:=fun v w=>wpAny (model k.c.prog k.c.w) A (compareOp .IsNot v w) Q' E s) h hv hw (fun f=>wpAny_isNot_self rfl (rb _ f)) fun v n p f=>wpAny_isNot_other p n (rb _ f)
 | In=>exact N h fun i t l arr a b f=>in_listAt (inB i) a b (rb _ f)
 | NotIn=>exact N (F:=fun b=>Q (!b)) h fun i t l arr a b f=>notIn_listAt (inB i) a b (rb _ f)
end
end Bm
namespace Bm
open PySem PySem.W PyProof.Rows PySem.SeqAt PySem.MeetsSeq Builtin Builtin.ObjectAttr
theorem ofString_inj {a b:String} (h:Str.ofString a=Str.ofString b):a=b:=by
 rw [Str.ofString_eq_toList,Str.ofString_eq_toList] at h
 injection h with h
 have h:a.toList.map Char.toNat=b.toList.map Char.toNat:=by simpa using h
 have inj:∀ c d:Char,c.toNat=d.toNat→c=d:=fun c d e=>Char.ext (UInt32.toNat_inj.mp e)
 exact String.toList_inj.mp (List.map_inj_right (fun c d=>inj c d) |>.mp h)
theorem lookIn_ns {h:Heap} {dx:Addr} {m:Str→Option Value} (hn:h.Ns dx m):∃ o,h.get? dx=some o∧∀ name,lookIn name o=some (m name):=by
 obtain⟨o,es,ep,ho,hd,hk,hf⟩:=hn
 refine⟨o,ho,fun name=>?_⟩
 have q:=hf name
 unfold nsFind findBy at q
 unfold lookIn
 rw [hd]
 dsimp only
 rw [← Array.find?_toList] at q
 cases hq:es.toList.find? (·.key.isStr name) with
 | some e=>rw [hq] at q;dsimp only;rw [← q];rfl
 | none =>
  rw [hq] at q
  dsimp only
  have:es.toList.any (·.refKey)=false:=by
   rw [List.any_eq_false];intro e he
   obtain⟨n,t,hh⟩:=hk e (by simpa using he)
   simp [DictEntry.refKey,hh]
  rw [if_neg (by rw [this];simp),← q];rfl
theorem isStr_of {e:DictEntry} {f:String×AV} (h:FR e f) (n:String):e.key.isStr (Str.ofString n)=decide (f.1=n):=by
 obtain⟨⟨tk,hk⟩,_⟩:=h
 rw [hk]
 show(Str.ofString f.1 == Str.ofString n)=_
 by_cases e:f.1=n
 ·rw [e];simp
 ·rw [decide_eq_false e]
  exact beq_eq_false_iff_ne.mpr fun z=>e (ofString_inj z)
theorem noRef_of {es:List DictEntry} {fs:List (String×AV)} (h:L2 FR es fs):es.any (·.refKey)=false:=by
 induction h with
 | nil=>rfl
 | cons r _ ih=>rw [List.any_cons,ih];obtain⟨⟨tk,hk⟩,_⟩:=r;simp [DictEntry.refKey,hk]
theorem getL_of {es:List DictEntry} {fs:List (String×AV)} (h:L2 FR es fs) (n:String):match fget fs n with
  | some v=>∃ y,getL (Str.ofString n) es=some (some y)∧VR y v
  | none=>getL (Str.ofString n) es=some none:=by
 have key:match fget fs n with
   | some v=>∃ e,es.find? (·.key.isStr (Str.ofString n))=some e∧VR e.val v
   | none=>es.find? (·.key.isStr (Str.ofString n))=none:=by
  induction h with
  | nil=>exact rfl
  | @cons e f es fs r _ ih =>
   unfold fget
   rw [List.find?_cons,isStr_of r]
   by_cases z:f.1=n
   ·rw [if_pos z,decide_eq_true z];exact⟨e,rfl,r.2⟩
   ·rw [if_neg z,decide_eq_false z];exact ih
 unfold getL
 cases hq:fget fs n with
 | some v=>rw [hq] at key;obtain⟨e,e1,e2⟩:=key;exact⟨e.val,by rw [e1],e2⟩
 | none=>rw [hq] at key;dsimp only at key ⊢;rw [key];dsimp only;rw [if_neg (by rw [noRef_of h];simp)]
theorem putL_of {es:List DictEntry} {fs:List (String×AV)} (h:L2 FR es fs) {n:String} {hsh:Int} {tk:Tok} {v:Value} {y:AV} (hy:VR v y):L2 FR (putL (Str.ofString n) hsh (.str (Str.ofString n) tk) v es) (fset fs n y):=by
 induction h with
 | nil=>exact .cons ⟨⟨tk,rfl⟩,hy⟩ .nil
 | @cons e f es fs r t ih =>
  obtain⟨k,w⟩:=f
  unfold putL fset
  rw [isStr_of r]
  by_cases z:k=n
  ·rw [if_pos z,if_pos (decide_eq_true z)];exact .cons ⟨r.1,hy⟩ t
  ·rw [if_neg z,if_neg (by simpa using z)];exact .cons r ih
theorem fset_length (fs:List (String×AV)) (n:String) (y:AV):(fset fs n y).length≤fs.length+1:=by
 induction fs with
 | nil=>exact Nat.le_refl _
 | cons f fs ih=>obtain⟨k,w⟩:=f;unfold fset;split <;> simp only [List.length_cons] <;> lia
theorem handed_VR {v:Value} {x:AV} (h:VR v x) (hx:x≠.undef):handedIn v=true:=by cases h <;> first | rfl | exact absurd rfl hx
section
variable {k:Kx} {ρ:List AV} {H:AHeap} {s:Shared} {Q X:EQ} {E:Value→Shared→Prop} {A:Around} {K:Frag}
theorem keepK (F:Fa k.c k.T K) {G:Nat→Kd} (S:StC k.c G k.fr k.P H s):K.In s.heap:=F.inK.keeps fun b o e=>(S.keep b o e).2
set_option tactic.hygienic true in
theorem p_attr (F:Fa k.c k.T K) {o:Value} {x:AV} {n:String} {expr:Bool} {Q:AV→Prop} (hx:VR o x) (S:k.St ρ H s) (h:vAttr k.T x n H Q) {Q':Value→Shared→Prop} (kk:∀ v av s',VR v av→k.St ρ H s'→Q av→Q' v s') :
  wpAny (model k.c.prog k.c.w) A (getAttr o (Str.ofString n) expr) Q' E s:=by
 obtain⟨G,S1,V⟩:=id S
 have X:=keepK F S1
 cases h with
 | @obj a C fs _ v hl hc hf hv hq =>
  refine hx.eRef ?_
  obtain⟨dx,es,m,h1,h2,h3,h4⟩:=(S1.hv a _ hl).2
  have A:=F.att C n hc
  have key:=getL_of h4 n
  rw [hf] at key
  obtain⟨y,y1,y2⟩:=key
  have I:InstAt s.heap a (instObj C dx) C (some (dictOf es m)):=⟨h1,rfl,rfl,h3⟩
  exact get_value X I (plainGet_of A.1).1 (findObj_own A.2.1 A.2.2.1 rfl y1) (handed_VR y2 fun e=>by rw [e] at hv;exact hv) (kk _ _ _ y2 (S.toks _) hq)
 | @exc a v hl hq =>
  refine hx.eRef ?_
  obtain⟨ob,dx,m,h1,hc,hd,hno,h2,h3,hi,y,y1,y2⟩:=(S1.hv a _ hl).2
  obtain⟨od,o1,o2⟩:=lookIn_ns h3
  have SO:=F.stop
  have I:InstAt s.heap a ob 71 (some od):=⟨h1,hc,hno,by rw [hd];exact o1⟩
  exact exc_get X I SO.ga SO.ge (X _ _ SO.cls.c71) (by decide) (findObj_own SO.hd SO.cls.aNodes rfl (by rw [o2,y1])) (handed_VR y2 fun e=>by rw [e] at hi;exact nomatch hi) (kk _ _ _ y2 (S.toks _) hq)
set_option tactic.hygienic true in
theorem p_setA (F:Fa k.c k.T K) {o v:Value} {x y:AV} {n:String} {Q:AHeap→Prop} (hx:VR o x) (hy:VR v y) (S:k.St ρ H s) (h:vSetA k.T x n y H Q) {Q':Unit→Shared→Prop} (kk:∀ H' s',k.St ρ H' s'→Q H'→Q' () s') :
  wpAny (model k.c.prog k.c.w) A (setAttr o (Str.ofString n) v) Q' E s:=by
 obtain⟨G,S1,V⟩:=S
 cases h with
 | @mk a C fs hl hc hz hq =>
  refine hx.eRef ?_
  obtain⟨ga,dx,es,m,h1,h2,h3,h4⟩:=S1.hv a _ hl
  have T:=F.att C n hc
  have X:=keepK F S1
  have I:InstAt s.heap a (instObj C dx) C (some (dictOf es m)):=⟨h1,rfl,rfl,h3⟩
  obtain⟨cd,hc,hd'⟩:=any_some T.2.1
  refine set_plain X I T.2.2.2.1 (osa_open (s:={ s with toks:=s.toks+1 }) X I T.2.2.2.2.1 T.2.2.2.2.2 fun b=>?_)
  dsimp only
  refine wpAny_bind (wpAny_pure (wpAny_bind (wpAny_bind (wpAny_loadPart (s:={ s with toks:=s.toks+1 }) h1 (wpAny_bind (looks_clsIn (h:=s.heap) X hc _ _ _ { s with toks:=s.toks+1 } (fun zz zz e=>e) ?_))))))
  rw [hd']
  refine wpAny_pure (a:=some dx) (wpAny_bind (wpAny_pure (wpAny_bind ?_)))
  unfold nsSet
  refine wpAny_bind (wpAny_bind (wpAny_askSetting (wpAny_pure (wpAny_bind (wpAny_mkText (wpAny_bind (wpAny_loadPart (o:=dictOf es m) h3 ?_)))))))
  have c:(!es.toArray.any (·.key.isStr (Str.ofString n))&&es.toArray.any (·.refKey))=false:=by
   rw [← Array.any_toList,← Array.any_toList,noRef_of h4,Bool.and_false]
  have pn:=putName_dict (Str.ofString n) (PyData.keyHash k.c.w.params (Str.ofString n)) (.str (Str.ofString n) (s.toks+1)) v es m
  have hg:(s.heap.update dx (Obj.putName (Str.ofString n) (PyData.keyHash k.c.w.params (Str.ofString n)) (.str (Str.ofString n) (s.toks+1)) v)).get? dx=some (dictOf (putL (Str.ofString n) (PyData.keyHash k.c.w.params (Str.ofString n)) (.str (Str.ofString n) (s.toks+1)) v es) (putN (Str.ofString n) es m)):=by
   rw [Heap.get?_update_self _ h3 (by rw [pn];rfl),pn]
  have hs:=Heap.SameBut.update s.heap dx (Obj.putName (Str.ofString n) (PyData.keyHash k.c.w.params (Str.ofString n)) (.str (Str.ofString n) (s.toks+1)) v)
  have hL:=putL_of (n:=n) (hsh:=PyData.keyHash k.c.w.params (Str.ofString n)) (tk:=s.toks+1) h4 hy
  dsimp only [dictOf]
  rw [aRefKeyMayBeTheName_at,c]
  refine wpAny_updatePart (o:=dictOf es m) h3 ?_
  refine wpAny_bind (wpAny_lookBehind hg (pastItsLine_dict ?_) ?_)
  ·rw [List.size_toArray,sizeLine_eq,hL.length]
   exact Nat.le_trans (fset_length fs n y) (Nat.le_trans hz (by decide))
  refine wpAny_pure ?_
  refine kk _ _ ⟨G,S1.putD (ao:=.obj C (fset fs n y)) (tk:=s.toks+1+1) ⟨_,hg⟩ h2 ga hs ⟨dx,_,_,(hs.2 a fun q=>?_).trans h1,h2,hg,hL⟩,V.heap fun b o hb e=>(hs.2 b fun q=>?_).trans e⟩ hq
  ·rw [← q,ga] at h2;exact nomatch h2
  ·rw [q,h2] at hb;exact nomatch hb
end
end Bm
namespace Bm
open PySem PySem.W PyProof.Rows PySem.SeqAt PySem.MeetsSeq
theorem idx_at {x:Str}:∀ {nm:List String} {i:Nat},idx x nm=some i→∃ n,nm[i]? = some n∧Str.ofString n=x
 | [],_,h=>nomatch h
 | n::r,i,h=>by
  unfold idx at h
  by_cases e:Str.ofString n=x
  ·rw [if_pos e] at h;cases h;exact⟨n,rfl,e⟩
  ·rw [if_neg e] at h
   cases hq:idx x r with
   | none=>rw [hq] at h;cases h
   | some j=>rw [hq] at h;cases h;obtain⟨n',a,b⟩:=idx_at (nm:=r) hq;exact⟨n',a,b⟩
theorem idx_inj {x y:Str} {nm:List String} {i:Nat} (h:idx x nm=some i) (h':idx y nm=some i):x=y:=by
 obtain⟨n,a,b⟩:=idx_at h
 obtain⟨m,c,d⟩:=idx_at h'
 rw [a] at c;cases c;rw [← b,← d]
theorem idx_lt {x:Str} {nm:List String} {i:Nat} (h:idx x nm=some i):i < nm.length:=by
 obtain⟨n,a,_⟩:=idx_at h
 exact(List.getElem?_eq_some_iff.mp a).1
theorem lset_length:∀ (ρ:List AV) (i:Nat) (v:AV),(lset ρ i v).length=ρ.length
 | [],_,_=>rfl
 | _::_,0,_=>rfl
 | _::r,i+1,v=>congrArg (· + 1) (lset_length r i v)
theorem lget_lset_eq:∀ {ρ:List AV} {i:Nat} {v:AV},i < ρ.length→lget (lset ρ i v) i=v
 | [],_,_,h=>absurd h (Nat.not_lt_zero _)
 | _::_,0,_,_=>rfl
 | _::r,i+1,v,h=>lget_lset_eq (ρ:=r) (Nat.lt_of_succ_lt_succ h)
theorem lget_lset_ne:∀ {ρ:List AV} {i j:Nat} {v:AV},j≠i→lget (lset ρ i v) j=lget ρ j
 | [],_,_,_,_=>rfl
 | _::_,0,0,_,h=>absurd rfl h
 | _::_,0,j+1,_,_=>rfl
 | _::_,i+1,0,_,_=>rfl
 | _::r,i+1,j+1,v,h=>lget_lset_ne (ρ:=r) (fun e=>h (by rw [e]))
theorem lookup_mem {α:Type} {x:Str} {a:α}:∀ {l:List (Str×α)},l.lookup x=some a→(x,a)∈l
 | [],e=>nomatch e
 | (y,b)::r,e=>by
  rw [List.lookup_cons] at e
  cases hxy:x == y with
  | true=>rw [hxy] at e;cases e;rw [eq_of_beq hxy];exact .head _
  | false=>rw [hxy] at e;exact .tail _ (lookup_mem e)
theorem StC.var {c:Cx} {G:Nat→Kd} {fr:List Env} {P:List (Addr×Obj)} {H:AHeap} {s:Shared} (S:StC c G fr P H s) {h':Heap} {tk:Nat} {a:Nat} (ga:G a=.var) (hs:Heap.SameBut a s.heap h')
  (he:∃ o,h'.get? a=some o) (hf:(∃ o,h'.get? a=some o∧∃ es n,o.data=.dict es n)∨∃ o,s.heap.get? a=some o∧∀ es n,o.data≠.dict es n):StC c G fr P H { s with heap:=h',toks:=tk }:=by
 have ne:∀ b,G b≠.var→b≠a:=fun b hb q=>hb (by rw [q,ga])
 refine⟨fun b o e=>⟨(S.keep b o e).1,(hs.2 b (ne b (by rw [(S.keep b o e).1];exact fun q=>nomatch q))).trans (S.keep b o e).2⟩,fun b hb=>if q:b=a then let ⟨o,e⟩:=he;⟨o,q ▸ e⟩ else let ⟨o,e⟩:=S.ex b hb;⟨o,(hs.2 b q).trans e⟩,fun b ao e=>?_,fun p hp=>?_,fun e he=>?_,S.gens,S.drawn,S.os⟩
 ·have:=S.hv b ao e
  refine⟨this.1,this.2.keep (fun b' o hb' ho=>(hs.2 b' (ne b' ?_)).trans ho) fun zz q=>q⟩
  rcases hb' with q | q
  ·rw [q,this.1];exact kd_ne (fun q=>nomatch q) (fun q=>nomatch q)
  ·rw [q];exact fun q=>nomatch q
 ·have:=S.pv p hp
  exact⟨this.1,this.2.keep fun o ho=>(hs.2 _ (ne _ (by rw [this.1];exact fun q=>nomatch q))).trans ho⟩
 ·obtain⟨h1,L,o,h2,h3,h4,h5⟩:=S.frs e he
  by_cases q:L=a
  ·rcases hf with ⟨o',o1,o2⟩ | ⟨o',o1,o2⟩
   ·exact⟨h1,L,o',h2,h3,by rw [q];exact o1,o2⟩
   ·rw [q,o1] at h4;cases h4
    obtain⟨es,n,h5⟩:=h5
    exact absurd h5 (o2 es n)
  ·exact⟨h1,L,o,h2,h3,(hs.2 L q).trans h4,h5⟩
section
variable {k:Kx} {ρ:List AV} {H:AHeap} {s:Shared} {Q X:EQ} {E:Value→Shared→Prop} {A:Around} {K:Frag}
theorem p_storeN {x:Str} {i:Nat} {v:Value} {av:AV} {Q:Unit→Shared→Prop} (hi:idx x k.nm=some i) (hx:∃ n∈k.ws,Str.ofString n=x) (hv:VR v av) (S:k.St ρ H s) (h:∀ s',k.St (lset ρ i av) H s'→Q () s') :
  wpAny (model k.c.prog k.c.w) A (storeName k.env x v) Q E s:=by
 obtain⟨G,S1,V⟩:=S
 obtain⟨n,hn,rfl⟩:=hx
 have hlt:i < ρ.length:=by rw [V.len];exact idx_lt hi
 obtain⟨m,hm⟩:=V.ns
 have vals:∀ (h':Heap),(∀ y w,y≠Str.ofString n→Reads G k.P k.env s.heap y w→Reads G k.P k.env h' y w)→Reads G k.P k.env h' (Str.ofString n) v →
   ∀ y j,idx y k.nm=some j→okKind (k.env.kindOf y)=true→lget (lset ρ i av) j≠.undef→∃ w,Reads G k.P k.env h' y w∧VR w (lget (lset ρ i av) j):=by
  intro h' hk hr y j hj hok hu
  by_cases e:j=i
  ·subst e
   rw [idx_inj hj hi,lget_lset_eq hlt]
   exact⟨v,hr,hv⟩
  ·rw [lget_lset_ne e] at hu ⊢
   obtain⟨w,w1,w2⟩:=V.reads y j hj hok hu
   exact⟨w,hk y w (fun q=>e (by rw [q] at hj;rw [hi] at hj;cases hj;rfl)) w1,w2⟩
 rcases V.stores n hn with h1 | ⟨h1,ca,h2,h3⟩
 ·refine wpAny_storeName_local h1 hm (fun h' hn' hs=>h _ ⟨G,S1.var V.loc hs ?_ ?_,?_⟩) (by rw [V.fn];rfl)
  ·obtain⟨o,es,ep,ho,hd,_⟩:=hn'
   exact⟨o,ho⟩
  ·obtain⟨o,es,ep,ho,hd,_⟩:=hn'
   exact .inl ⟨o,ho,es,ep,hd⟩
  ·have cell:∀ ca v,s.heap.IsCell ca v→h'.IsCell ca v:=fun ca v ⟨o,ho,hd⟩=>by
    refine⟨o,(hs.2 ca fun q=>?_).trans ho,hd⟩
    obtain⟨o',es,ep,ho',hd',_⟩:=hm
    rw [q,ho'] at ho;cases ho;rw [hd] at hd';cases hd'
   refine⟨V.fn,V.gl,V.bi,V.loc,⟨_,hn'⟩,vals h' (fun y w hy hr=>?_) (.inl ⟨h1,_,hn',if_pos rfl⟩),V.stores,fun y cb e q=>?_,V.inj,by rw [lset_length];exact V.len,V.inP,V.has⟩
   ·rcases hr with ⟨r1,m',r2,r3⟩ | ⟨cb,r1,r2,⟨r3,r4⟩ | r3⟩
    ·refine .inl ⟨r1,_,hn',?_⟩
     rw [if_neg hy]
     obtain⟨o,es,ep,ho,hd,_,hf⟩:=hm
     obtain⟨o',es',ep',ho',hd',_,hf'⟩:=r2
     rw [ho] at ho';cases ho';rw [hd] at hd';cases hd'
     rw [← hf,hf',r3]
    ·exact .inr ⟨cb,r1,r2,.inl ⟨r3,cell _ _ r4⟩⟩
    ·exact .inr ⟨cb,r1,r2,.inr r3⟩
   ·obtain⟨v₀,hv₀⟩:=V.cells y cb e q
    exact⟨v₀,cell _ _ hv₀⟩
 ·obtain⟨v₀,hv₀⟩:=V.cells _ ca h2 h3
  refine wpAny_storeName_cell V.fn h1 h2 hv₀ fun h' hc hs=>h _ ⟨G,S1.var (tk:=s.toks) h3 hs ?_ ?_,?_⟩
  ·obtain⟨o,ho,hd⟩:=hc
   exact⟨o,ho⟩
  ·obtain⟨o,ho,hd⟩:=hv₀
   exact .inr ⟨o,ho,fun es n q=>by rw [hd] at q;cases q⟩
  ·have hL:k.env.locals≠ca:=fun q=>by
    obtain⟨o',es,ep,ho',hd',_⟩:=hm
    obtain⟨o,ho,hd⟩:=hv₀
    rw [q] at ho';rw [ho] at ho';cases ho';rw [hd] at hd';cases hd'
   refine⟨V.fn,V.gl,V.bi,V.loc,⟨m,hm.sameBut hs hL⟩,vals h' (fun y w hy hr=>?_) (.inr ⟨ca,.inl h1,h2,.inl ⟨h3,hc⟩⟩),V.stores,fun y cb e q=>?_,V.inj,by rw [lset_length];exact V.len,V.inP,V.has⟩
   ·rcases hr with ⟨r1,m',r2,r3⟩ | ⟨cb,r1,r2,⟨r3,r4⟩ | r3⟩
    ·exact .inl ⟨r1,m',r2.sameBut hs hL,r3⟩
    ·exact .inr ⟨cb,r1,r2,.inl ⟨r3,r4.sameBut hs fun q=>hy (V.inj _ _ cb r2 (q ▸ h2))⟩⟩
    ·exact .inr ⟨cb,r1,r2,.inr r3⟩
   ·by_cases z:cb=ca
    ·subst z;exact⟨_,hc⟩
    ·obtain⟨v₁,hv₁⟩:=V.cells y cb e q
     exact⟨v₁,hv₁.sameBut hs z⟩
theorem p_store {x:Str} {i:Nat} {v:Value} {av:AV} {Q:Unit→Shared→Prop} (hi:idx x k.nm=some i) (hx:∃ n∈k.ws,Str.ofString n=x) (hv:VR v av) (S:k.St ρ H s) (h:∀ s',k.St (lset ρ i av) H s'→Q () s') :
  wpAny (model k.c.prog k.c.w) A (bindName k.env x v) Q E s:=wpAny_bindName (p_storeN hi hx hv S h)
theorem p_unbind {x:Str} {i:Nat} {Q:Unit→Shared→Prop} (hi:idx x k.nm=some i) (hl:k.env.kindOf x=some .local) (hu:lget ρ i≠.undef) (S:k.St ρ H s) (h:∀ s',k.St (lset ρ i .undef) H s'→Q () s') :
  wpAny (model k.c.prog k.c.w) A (unbindName k.env x) Q E s:=by
 obtain⟨G,S1,V⟩:=S
 have hlt:i < ρ.length:=by rw [V.len];exact idx_lt hi
 obtain⟨v,hr,hv⟩:=V.reads x i hi (by rw [hl];rfl) hu
 rcases hr with ⟨_,m,hm,hmv⟩ | ⟨ca,h1 | h1,_⟩
 rotate_left
 ·rw [hl] at h1;cases h1
 ·rw [hl] at h1;cases h1
 refine wpAny_unbindName_local hl hm hmv (by rw [V.fn];rfl) fun h' u hn' hs=>h _ ⟨G,S1.var (tk:=s.toks) V.loc hs ?_ ?_,?_⟩
 ·obtain⟨o,es,ep,ho,hd,_⟩:=hn'
  exact⟨o,ho⟩
 ·obtain⟨o,es,ep,ho,hd,_⟩:=hn'
  exact .inl ⟨o,ho,es,ep,hd⟩
 ·have cell:∀ ca v,s.heap.IsCell ca v→h'.IsCell ca v:=fun ca v ⟨o,ho,hd⟩=>by
   refine⟨o,(hs.2 ca fun q=>?_).trans ho,hd⟩
   obtain⟨o',es,ep,ho',hd',_⟩:=hm
   rw [q,ho'] at ho;cases ho;rw [hd] at hd';cases hd'
  refine⟨V.fn,V.gl,V.bi,V.loc,⟨_,hn'⟩,fun y j hj hok hu'=>?_,V.stores,fun y cb e q=>?_,V.inj,by rw [lset_length];exact V.len,V.inP,V.has⟩
  ·by_cases e:j=i
   ·subst e;rw [lget_lset_eq hlt] at hu';exact absurd rfl hu'
   ·rw [lget_lset_ne e] at hu' ⊢
    obtain⟨w,w1,w2⟩:=V.reads y j hj hok hu'
    refine⟨w,?_,w2⟩
    rcases w1 with ⟨r1,m',r2,r3⟩ | ⟨cb,r1,r2,⟨r3,r4⟩ | r3⟩
    ·refine .inl ⟨r1,_,hn',?_⟩
     rw [if_neg (fun q=>e (by rw [q] at hj;rw [hi] at hj;cases hj;rfl))]
     obtain⟨o,es,ep,ho,hd,_,hf⟩:=hm
     obtain⟨o',es',ep',ho',hd',_,hf'⟩:=r2
     rw [ho] at ho';cases ho';rw [hd] at hd';cases hd'
     rw [← hf,hf',r3]
    ·exact .inr ⟨cb,r1,r2,.inl ⟨r3,cell _ _ r4⟩⟩
    ·exact .inr ⟨cb,r1,r2,.inr r3⟩
  ·obtain⟨v₀,hv₀⟩:=V.cells y cb e q
   exact⟨v₀,cell _ _ hv₀⟩
noncomputable def isVar:Kd→Bool
 | .var=>true
 | _=>false
theorem isVar_iff {x:Kd}:isVar x=true↔x=.var:=by cases x <;> simp [isVar]
noncomputable def stor (G:Nat→Kd) (env:Env) (h:Heap):List Addr:=env.locals::(env.cells.map (·.2)).filter fun a=>isVar (G a)&&(h.get? a).isSome
noncomputable def storO (G:Nat→Kd) (env:Env) (h:Heap):List (Addr×Obj):=(stor G env h).filterMap fun a=>(h.get? a).map (a,·)
noncomputable def putBy (G:Nat→Kd):Nat→Kd:=fun a=>if isVar (G a)=true then .prot else G a
noncomputable def takeUp (st:List Addr) (G:Nat→Kd):Nat→Kd:=fun a=>if a∈st then .var else G a
theorem putBy_ne {G:Nat→Kd} {a:Nat} (h:G a≠.var):putBy G a=G a:=by unfold putBy;rw [if_neg (fun q=>h (isVar_iff.mp q))]
theorem putBy_var {G:Nat→Kd} {a:Nat} (h:G a=.var):putBy G a=.prot:=by unfold putBy;rw [if_pos (isVar_iff.mpr h)]
theorem St_putBy {G:Nat→Kd} (S:StC k.c G k.fr k.P H s) (V:Vr G k.P k.env k.nm k.ws ρ s.heap):StC k.c (putBy G) k.fr (storO G k.env s.heap++k.P) H s:=by
 have sv:∀ a∈stor G k.env s.heap,G a=.var:=by
  intro a ha
  rcases List.mem_cons.mp ha with rfl | ha
  ·exact V.loc
  ·exact isVar_iff.mp (Bool.and_eq_true_iff.mp (List.mem_filter.mp ha).2).1
 refine⟨fun b o e=>⟨(putBy_ne (by rw [(S.keep b o e).1];exact fun q=>nomatch q)).trans (S.keep b o e).1,(S.keep b o e).2⟩,fun a ha=>S.ex a fun q=>ha ((putBy_ne (by rw [q];exact fun q=>nomatch q)).trans q),fun a ao e=>?_,fun p hp=>?_,fun e he=>?_,S.gens,S.drawn,S.os⟩
 ·have:=S.hv a ao e
  exact⟨(putBy_ne (by rw [this.1];exact kd_ne (fun q=>nomatch q) (fun q=>nomatch q))).trans this.1,this.2.keep (fun zz zz zz e=>e) fun b q=>(putBy_ne (by rw [q];exact fun q=>nomatch q)).trans q⟩
 ·rcases List.mem_append.mp hp with hp | hp
  ·obtain⟨a,ha,e⟩:=List.mem_filterMap.mp hp
   cases hq:s.heap.get? a with
   | none=>rw [hq] at e;cases e
   | some o=>rw [hq] at e;cases e;exact⟨putBy_var (sv a ha),.inl hq⟩
  ·have:=S.pv p hp
   exact⟨(putBy_ne (by rw [this.1];exact fun q=>nomatch q)).trans this.1,this.2⟩
 ·obtain⟨h1,L,o,h2,h3,h4,h5⟩:=S.frs e he
  refine⟨h1,L,o,h2,.inl ?_,h4,h5⟩
  rcases h3 with q | q
  ·exact(putBy_ne (by rw [q];exact fun q=>nomatch q)).trans q
  ·exact putBy_var q
theorem St_takeUp' {G G':Nat→Kd} {H':AHeap} {s':Shared} {P':List (Addr×Obj)} (V:Vr G k.P k.env k.nm k.ws ρ s.heap) (nv:∀ a,G' a≠.var) (S':StC k.c G' k.fr (storO G k.env s.heap++P') H' s')
  (hP:∀ p∈P',p.1∉stor G k.env s.heap) (hc:∀ c o v,(c,o)∈k.P→o.data=.cell v→(c,o)∈P') :
  StC k.c (takeUp (stor G k.env s.heap) G') k.fr P' H' s'∧Vr (takeUp (stor G k.env s.heap) G') P' k.env k.nm k.ws ρ s'.heap:=by
 have sv:∀ a∈stor G k.env s.heap,G a=.var:=by
  intro a ha
  rcases List.mem_cons.mp ha with rfl | ha
  ·exact V.loc
  ·exact isVar_iff.mp (Bool.and_eq_true_iff.mp (List.mem_filter.mp ha).2).1
 have inP:∀ a∈stor G k.env s.heap,∀ o,s.heap.get? a=some o→(a,o)∈storO G k.env s.heap++P':=fun a ha o ho=>List.mem_append_left _ (List.mem_filterMap.mpr ⟨a,ha,by rw [ho];rfl⟩)
 have locIn:k.env.locals∈stor G k.env s.heap:=.head _
 have cellIn:∀ x ca,k.env.cells.lookup x=some ca→G ca=.var→ca∈stor G k.env s.heap:=fun x ca e q=>by
  have:=lookup_mem e
  obtain⟨v₀,o,ho,_⟩:=V.cells x ca e q
  refine .tail _ (List.mem_filter.mpr ⟨?_,by rw [isVar_iff.mpr q,ho];rfl⟩)
  exact List.mem_map.mpr ⟨_,this,rfl⟩
 have obj:∀ a∈stor G k.env s.heap,∃ o,s.heap.get? a=some o:=by
  intro a ha
  rcases List.mem_cons.mp ha with rfl | ha
  ·obtain⟨m,o,_,_,ho,_⟩:=V.ns;exact⟨o,ho⟩
  ·exact Option.isSome_iff_exists.mp (Bool.and_eq_true_iff.mp (List.mem_filter.mp ha).2).2
 have prot:∀ a∈stor G k.env s.heap,G' a=.prot:=fun a ha=>by
  obtain⟨o,ho⟩:=obj a ha
  exact(S'.pv _ (inP a ha o ho)).1
 have tu_ne:∀ a,a∉stor G k.env s.heap→takeUp (stor G k.env s.heap) G' a=G' a:=fun a h=>by unfold takeUp;rw [if_neg h]
 have tu_in:∀ a,a∈stor G k.env s.heap→takeUp (stor G k.env s.heap) G' a=.var:=fun a h=>by unfold takeUp;rw [if_pos h]
 have notin:∀ a x,G' a=x→x≠.prot→a∉stor G k.env s.heap:=fun a x e n h=>n (by rw [← e,prot a h])
 have ns':∀ m,s.heap.Ns k.env.locals m→s'.heap.Ns k.env.locals m:=fun m ⟨o,es,ep,ho,hd,r⟩=>by
  rcases(S'.pv _ (inP _ locIn o ho)).2 with z | ⟨_,sl,z⟩
  ·exact⟨o,es,ep,z,hd,r⟩
  ·exact⟨_,es,ep,z,hd,r⟩
 have cell':∀ x ca,k.env.cells.lookup x=some ca→G ca=.var→∀ v,s.heap.IsCell ca v→s'.heap.IsCell ca v:=fun x ca e q v ⟨o,ho,hd⟩=>by
  rcases(S'.pv _ (inP _ (cellIn x ca e q) o ho)).2 with z | ⟨⟨_,es,n,w⟩,sl,z⟩
  ·exact⟨o,z,hd⟩
  ·rw [hd] at w;cases w
 refine⟨⟨fun b o e=>⟨(tu_ne b (notin b _ (S'.keep b o e).1 fun q=>nomatch q)).trans (S'.keep b o e).1,(S'.keep b o e).2⟩,fun a ha=>?_,fun a ao e=>?_,fun p hp=>?_,fun e he=>?_,S'.gens,S'.drawn,S'.os⟩,?_⟩
 ·by_cases q:a∈stor G k.env s.heap
  ·exact S'.ex a (by rw [prot a q];exact fun q=>nomatch q)
  ·rw [tu_ne a q] at ha;exact S'.ex a ha
 ·have:=S'.hv a ao e
  exact⟨(tu_ne a (notin a _ this.1 (kd_ne (fun q=>nomatch q) (fun q=>nomatch q)))).trans this.1,this.2.keep (fun zz zz zz e=>e) fun b q=>(tu_ne b (notin b _ q fun q=>nomatch q)).trans q⟩
 ·have:=S'.pv p (List.mem_append_right _ hp)
  exact⟨(tu_ne _ (hP p hp)).trans this.1,this.2⟩
 ·obtain⟨h1,L,o,h2,h3,h4,h5⟩:=S'.frs e he
  refine⟨h1,L,o,h2,?_,h4,h5⟩
  by_cases q:L∈stor G k.env s.heap
  ·exact .inr (tu_in L q)
  ·rw [tu_ne L q];exact h3
 ·refine⟨V.fn,V.gl,V.bi,tu_in _ locIn,V.ns.imp ns',fun x i e hk n=>?_,fun x hx=>?_,fun x ca e q=>?_,V.inj,V.len,fun x ca e=>(V.inP x ca e).imp (fun q=>tu_in _ (cellIn x ca e q)) fun⟨o,v,h1,h2⟩=>⟨o,v,hc _ _ _ h1 h2,h2⟩,V.has⟩
  ·obtain⟨v,hr,hv⟩:=V.reads x i e hk n
   refine⟨v,?_,hv⟩
   rcases hr with ⟨h1,m,h2,h3⟩ | ⟨ca,h1,h2,⟨h3,h4⟩ | h3⟩
   ·exact .inl ⟨h1,m,ns' m h2,h3⟩
   ·exact .inr ⟨ca,h1,h2,.inl ⟨tu_in _ (cellIn x ca h2 h3),cell' x ca h2 h3 _ h4⟩⟩
   ·obtain⟨o,h3,h4⟩:=h3
    exact .inr ⟨ca,h1,h2,.inr ⟨o,hc _ _ _ h3 h4,h4⟩⟩
  ·rcases V.stores x hx with h1 | ⟨h1,ca,h2,h3⟩
   ·exact .inl h1
   ·exact .inr ⟨h1,ca,h2,tu_in _ (cellIn _ ca h2 h3)⟩
  ·by_cases z:G ca=.var
   ·obtain⟨v₀,hv₀⟩:=V.cells x ca e z
    exact⟨v₀,cell' x ca e z _ hv₀⟩
   ·exfalso
    by_cases w:ca∈stor G k.env s.heap
    ·exact z (sv ca w)
    ·rw [tu_ne ca w] at q;exact nv ca q
theorem stor_var {G:Nat→Kd} {h:Heap} (V:Vr G k.P k.env k.nm k.ws ρ h):∀ a∈stor G k.env h,G a=.var:=by
 intro a ha
 rcases List.mem_cons.mp ha with rfl | ha
 ·exact V.loc
 ·exact isVar_iff.mp (Bool.and_eq_true_iff.mp (List.mem_filter.mp ha).2).1
theorem stor_obj {G:Nat→Kd} {h:Heap} (V:Vr G k.P k.env k.nm k.ws ρ h):∀ a∈stor G k.env h,∃ o,h.get? a=some o:=by
 intro a ha
 rcases List.mem_cons.mp ha with rfl | ha
 ·obtain⟨m,o,_,_,ho,_⟩:=V.ns;exact⟨o,ho⟩
 ·exact Option.isSome_iff_exists.mp (Bool.and_eq_true_iff.mp (List.mem_filter.mp ha).2).2
theorem stor_cell {G:Nat→Kd} {h:Heap} (V:Vr G k.P k.env k.nm k.ws ρ h) {x:Str} {ca:Nat} (e:k.env.cells.lookup x=some ca) (q:G ca=.var):ca∈stor G k.env h:=by
 have:=lookup_mem e
 obtain⟨v₀,o,ho,_⟩:=V.cells x ca e q
 refine .tail _ (List.mem_filter.mpr ⟨?_,by rw [isVar_iff.mpr q,ho];rfl⟩)
 exact List.mem_map.mpr ⟨_,this,rfl⟩
theorem storO_mem {G:Nat→Kd} {h:Heap} {a:Nat} {o:Obj} (ha:a∈stor G k.env h) (ho:h.get? a=some o):(a,o)∈storO G k.env h:=List.mem_filterMap.mpr ⟨a,ha,by rw [ho];rfl⟩
theorem storO_at {G:Nat→Kd} {h:Heap} {p:Addr×Obj} (hp:p∈storO G k.env h):p.1∈stor G k.env h∧h.get? p.1=some p.2:=by
 obtain⟨a,ha,e⟩:=List.mem_filterMap.mp hp
 cases hq:h.get? a with
 | none=>rw [hq] at e;cases e
 | some o=>rw [hq] at e;cases e;exact⟨ha,hq⟩
theorem St_takeUp {G G':Nat→Kd} {H':AHeap} {s':Shared} (S:StC k.c G k.fr k.P H s) (V:Vr G k.P k.env k.nm k.ws ρ s.heap) (nv:∀ a,G' a≠.var) (S':StC k.c G' k.fr (storO G k.env s.heap++k.P) H' s') :
  StC k.c (takeUp (stor G k.env s.heap) G') k.fr k.P H' s'∧Vr (takeUp (stor G k.env s.heap) G') k.P k.env k.nm k.ws ρ s'.heap :=
 St_takeUp' V nv S' (fun p hp q=>by have:=stor_var V _ q;rw [(S.pv p hp).1] at this;cases this) fun zz zz zz h zz=>h
end
end Bm
namespace Bm
open PySem PySem.W PyProof.Rows PySem.SeqAt PySem.MeetsSeq
structure Kx.Ok (k:Kx) (K:Frag):Prop where
 F:Fa k.c k.T K
 room:k.A.depth+3*k.n+2≤900∧k.A.units+20*k.n+17≤9000
 frames:k.A.frames=some k.fr
 hand:k.hd=false→k.A.handled=none
 calls:CallOk k.c k.call k.n k.hd
section
variable {k:Kx} {ρ:List AV} {H:AHeap} {s:Shared} {Q X:EQ} {E:Value→Shared→Prop} {A:Around} {K:Frag}
theorem putBy_noVar (G:Nat→Kd):∀ a,putBy G a≠.var:=fun a q=>by
 by_cases h:G a=.var
 ·rw [putBy_var h] at q;cases q
 ·rw [putBy_ne h] at q;exact h q
theorem stor_prot {G G':Nat→Kd} {H':AHeap} {s':Shared} (S:StC k.c G k.fr k.P H s) (V:Vr G k.P k.env k.nm k.ws ρ s.heap) (S':StC k.c G' k.fr (storO G k.env s.heap++k.P) H' s') {a:Nat} (ha:a∈stor G k.env s.heap):G' a=.prot:=by
 obtain⟨o,ho⟩:∃ o,s.heap.get? a=some o:=by
  rcases List.mem_cons.mp ha with rfl | ha
  ·obtain⟨m,o,_,_,ho,_⟩:=V.ns;exact⟨o,ho⟩
  ·exact Option.isSome_iff_exists.mp (Bool.and_eq_true_iff.mp (List.mem_filter.mp ha).2).2
 exact(S'.pv _ (List.mem_append_left _ (List.mem_filterMap.mpr ⟨a,ha,by rw [ho];rfl⟩))).1
theorem St_back {G G':Nat→Kd} {H':AHeap} {s':Shared} (S:StC k.c G k.fr k.P H s) (V:Vr G k.P k.env k.nm k.ws ρ s.heap) {r:Result} (h:RP k.c k.fr (storO G k.env s.heap++k.P) Q X r s') :
  match r with | .ok (.ret v)=>k.RE ρ Q v s' | .ok _=>False | .error e=>k.XE ρ X e s':=by
 rcases r with e | (v | _ | _ | v) <;> first | exact h | skip
 ·obtain⟨G',ea,n,H',nv,rfl,S',F,hx⟩:=h
  obtain⟨S2,V2⟩:=St_takeUp S V nv S'
  refine⟨_,ea,n,H',.fly,rfl,S2,V2,F.mv fun a e=>?_,(fun L e=>nomatch e),hx⟩
  refine if_neg fun ha=>?_
  have np:G' a≠.prot:=fun q=>by rw [q] at e;rcases e with e | e <;> cases e
  exact np (stor_prot S V S' ha)
 ·obtain⟨G',av,H',nv,hv,S',hq⟩:=h
  obtain⟨S2,V2⟩:=St_takeUp S V nv S'
  exact⟨av,H',hv,⟨_,S2,V2⟩,hq⟩
theorem p_callf (O:k.Ok K) {f:Nat} {vs:List Value} {xs:List AV} (hv:L2 VR vs xs) (S:k.St ρ H s) (h:k.call f xs H Q X):wpAny (model k.c.prog k.c.w) k.A (call (.ref f) vs []) (k.RE ρ Q) (k.XE ρ X) s:=by
 obtain⟨G,S1,V⟩:=S
 refine wpAny_call (codeAny_mono (O.calls f xs H Q X h k.A k.fr _ _ s vs (putBy_noVar G) hv (St_putBy S1 V) ⟨by have:=O.room.1;lia,by have:=O.room.2;lia⟩ O.frames O.hand) fun r s' hr=>?_)
 have:=St_back (G':=G) (H':=H) S1 V hr
 rcases r with e | (v | _ | _ | v) <;> exact this
theorem gset2 {G:Nat→Kd} {a b:Nat} {x y:Kd} (h:b≠a):gset (gset G a x) b y a=x:=by rw [gset_ne (Ne.symm h),gset_eq]
theorem p_new (O:k.Ok K) {C f:Nat} {vs:List Value} {xs:List AV} (hi:k.T.ini C=some f) (hv:L2 VR vs xs) (S:k.St ρ H s)
  (h:∀ a,H a=none→k.call f (.ref a::xs) (upd H a (.obj C [])) (fun v H'=>(match v with | .none=>Q (.ref a) H' | _=>False)) X) :
  wpAny (model k.c.prog k.c.w) k.A (call (.ref C) vs []) (k.RE ρ Q) (k.XE ρ X) s:=by
 obtain⟨G,S1,V⟩:=S
 obtain⟨_,i1,i2,i3⟩:=O.F.ini C f hi
 have XK:=keepK O.F S1
 have f0:=S1.freeAt
 have S2:=(S1.garbage emptyDict s.toks).garbage (instObj C s.heap.objs.size) s.toks
 have sz:((s.heap.push emptyDict).push (instObj C s.heap.objs.size)).objs.size=s.heap.objs.size+2:=by rw [Heap.size_push,Heap.size_push]
 have free1:G (s.heap.objs.size+1)=.free:=by
  cases hq:G (s.heap.objs.size+1) with
  | free=>rfl
  | _=>exact absurd (S1.lt _ (by rw [hq];exact fun e=>nomatch e)) (by lia)
 let G':Nat→Kd:=gset (gset G s.heap.objs.size (.dic (s.heap.objs.size+1))) (s.heap.objs.size+1) .obj
 have g0:G' s.heap.objs.size=.dic (s.heap.objs.size+1):=gset2 (by lia)
 have g1:G' (s.heap.objs.size+1)=.obj:=gset_eq
 have gk:∀ a,G a≠.free→G' a=G a:=fun a ha=>by
  show gset _ _ _ a=_
  rw [gset_ne (fun q=>ha (by rw [q,free1])),gset_ne (fun q=>ha (by rw [q,f0]))]
 have d0:((s.heap.push emptyDict).push (instObj C s.heap.objs.size)).get? s.heap.objs.size=some emptyDict:=Heap.get?_push_of_some _ (Heap.get?_push_size _ rfl)
 have d1:((s.heap.push emptyDict).push (instObj C s.heap.objs.size)).get? (s.heap.objs.size+1)=some (instObj C s.heap.objs.size):=by
  have:=Heap.get?_push_size (s.heap.push emptyDict) (o:=instObj C s.heap.objs.size) rfl
  rw [Heap.size_push] at this;exact this
 have S3:=S2.rekind (G':=G') gk fun a ha=>by
  by_cases q:a=s.heap.objs.size+1
  ·rw [q];exact⟨_,d1⟩
  ·by_cases q':a=s.heap.objs.size
   ·rw [q'];exact⟨_,d0⟩
   ·have e:G' a=G a:=by show gset _ _ _ a=_;rw [gset_ne q,gset_ne q']
    rw [e] at ha
    obtain⟨o,ho⟩:=S1.ex a ha
    exact⟨o,Heap.get?_push_of_some _ (Heap.get?_push_of_some _ ho)⟩
 have hn1:H (s.heap.objs.size+1)=none:=by
  cases hq:H (s.heap.objs.size+1) with
  | none=>rfl
  | some ao=>have:=(S1.hv _ _ hq).1;rw [free1] at this;exact absurd this.symm (kd_ne (fun q=>nomatch q) (fun q=>nomatch q))
 have S4:StC k.c G' k.fr k.P (upd H (s.heap.objs.size+1) (.obj C [])) { s with heap:=(s.heap.push emptyDict).push (instObj C s.heap.objs.size) }:=by
  refine⟨S3.keep,S3.ex,fun a ao e=>?_,S3.pv,S3.frs,S3.gens,S3.drawn,S3.os⟩
  unfold upd at e
  split at e
  ·rename_i q;subst q;cases e;exact⟨g1,_,[],0,d1,g0,d0,.nil⟩
  ·exact S3.hv a ao e
 have V4:Vr G' k.P k.env k.nm k.ws ρ ((s.heap.push emptyDict).push (instObj C s.heap.objs.size)):=by
  refine V.step (fun a e=>(gk a (by rw [e];exact fun q=>nomatch q)).trans e) (fun x ca zz e=>?_) (fun a o zz e=>Heap.get?_push_of_some _ (Heap.get?_push_of_some _ e))
  by_cases q:G ca=.free
  ·by_cases q1:ca=s.heap.objs.size+1
   ·rw [q1,g1] at e;cases e
   ·by_cases q2:ca=s.heap.objs.size
    ·rw [q2,g0] at e;cases e
    ·have:G' ca=G ca:=by show gset _ _ _ ca=_;rw [gset_ne q1,gset_ne q2]
     rw [this,q] at e;cases e
  ·rw [gk ca q] at e;exact e
 obtain⟨hp,gg,dd,tt,os⟩:=s
 refine wpAny_call (make_core (makes_of XK i1) (looks_findIn XK i2) (fun self=>bind_fn XK self i3) (.inl rfl) ?_)
 have key:=O.calls f (.ref (hp.objs.size+1)::xs) _ _ _ (h _ hn1) (k.A.under (.builtin "type.__call__" ⟨.ref C::vs,[]⟩)) k.fr _ _ _ (.ref (hp.objs.size+1)::vs) (putBy_noVar _) (.cons (.ref _) hv) (St_putBy S4 V4)
  ⟨by have:=O.room.1;have e:=depth_under_kw k.A C vs [];lia,by have:=O.room.2;have e:(k.A.under (.builtin "type.__call__" ⟨.ref C::vs,[]⟩)).units=k.A.units+1:=rfl;lia⟩ (by show pushEnvs [] k.A.frames=_;exact O.frames) O.hand
 refine codeAny_mono key fun r s' hr=>?_
 have back:=St_back (G':=G) (H':=H) S4 V4 hr
 rcases r with e | (v | _ | _ | v) <;> first | exact back | skip
 obtain⟨av,H',hv',St',hq⟩:=back
 cases hv' <;> first | exact hq.elim | skip
 exact⟨rfl,_,H',.ref _,St',hq⟩
end
end Bm
namespace Bm
open PySem PySem.W PyProof.Rows PySem.SeqAt PySem.MeetsSeq
section
variable {k:Kx} {ρ:List AV} {H:AHeap} {s:Shared} {Q X:EQ} {E:Value→Shared→Prop} {A:Around} {K:Frag}
theorem starEach_cons {e:Expr} {r:List Expr} {env:Env} (h:isStar e=false):starEach (e::r) env=(false,eval e env)::starEach r env:=by
 cases e <;> first | rfl | (cases h)
theorem backTo_cons {pos:Pos} {t:Sem Value} {l:List (Bool×Sem Value)}:backTo pos ((false,t)::l)=(false,t)::backTo pos l:=rfl
theorem plain_any {es:List Expr} {pos:Pos} {env:Env} (h:es.all (fun e=>!isStar e)=true):(backTo pos (starEach es env)).any (·.1)=false:=by
 induction es with
 | nil=>rfl
 | cons e r ih =>
  rw [List.all_cons,Bool.and_eq_true,Bool.not_eq_true'] at h
  rw [starEach_cons h.1,backTo_cons,List.any_cons,ih h.2];rfl
theorem evalArgs_any {M:Model} {f:Value} {es:List Expr} {pos:Pos} {env:Env} {Q:Args→Shared→Prop} (hs:es.all (fun e=>!isStar e)=true)
  (h:wpAny M A (spliced (backTo pos (starEach es env))) (fun vs s'=>Q ⟨vs,[]⟩ s') E s):wpAny M A (evalArgs f true (backTo pos (starEach es env)) []) Q E s:=by
 cases es with
 | nil=>exact wpAny_bind (wpAny_mono h (fun vs s' h'=>wpAny_bind (wpAny_pure (wpAny_holding (wpAny_bind (wpAny_pure (wpAny_bind (wpAny_pure (wpAny_pure h')))))))) fun zz zz x=>x)
 | cons e r =>
  rw [List.all_cons,Bool.and_eq_true,Bool.not_eq_true'] at hs
  rw [starEach_cons hs.1,backTo_cons] at h ⊢
  exact Calls.evalArgs_plain h
theorem with_K {M:Model} {f:Value} {first:List Value} {es:List Expr} {pos:Pos} {env:Env} {Q:Value→Shared→Prop} (hk:keepIn K f=true) (hs:es.all (fun e=>!isStar e)=true)
  (h:wpAny M A (spliced (backTo pos (starEach es env))) (fun vs s'=>K.In s'.heap∧wpAny M A (call f (first++vs) []) Q E s') E s):wpAny M A (callWith pos f first (backTo pos (starEach es env)) []) Q E s :=
 callWith_of (P:=K.In) (by rw [plain_any hs];rfl) (keeps_K hk) (evalArgs_any hs h)
theorem with_B {M:Model} {id:String} {first:List Value} {es:List Expr} {pos:Pos} {env:Env} {Q:Value→Shared→Prop} (hs:es.all (fun e=>!isStar e)=true)
  (h:wpAny M A (spliced (backTo pos (starEach es env))) (fun vs s'=>wpAny M A (call (.builtin id) (first++vs) []) Q E s') E s):wpAny M A (callWith pos (.builtin id) first (backTo pos (starEach es env)) []) Q E s :=
 Calls.callWith_builtin (plain_any hs) (evalArgs_any hs h)
theorem with_T {M:Model} {T:String} {first:List Value} {es:List Expr} {pos:Pos} {env:Env} {Q:Value→Shared→Prop} (hs:es.all (fun e=>!isStar e)=true)
  (h:wpAny M A (spliced (backTo pos (starEach es env))) (fun vs s'=>wpAny M A (call (.type T) (first++vs) []) Q E s') E s):wpAny M A (callWith pos (.type T) first (backTo pos (starEach es env)) []) Q E s :=
 PyProof.Rows.callWith_type (plain_any hs) (evalArgs_any hs h)
theorem bare_base {o:Expr} {x:Str} {env:Env} {t:Sem Value} (hb:bare o=false):attributeBase o x env t=t:=by
 cases o with
 | Call f as ks p=>cases f with
  | Name=>cases as with
   | nil=>cases ks with
    | nil=>exact nomatch hb
    | cons=>rfl
   | cons=>rfl
  | _=>rfl
 | _=>rfl
theorem eval_meth {o:Expr} {x:Str} {apos pos:Pos} {args:List Expr} {env:Env} (hb:bare o=false) (hs:args.all (fun e=>!isStar e)=true) (hl:args.length < 20) (hp:apos.endLine=pos.line) :
  eval (.Call (.Attribute o x apos) args [] pos) env=(do
   let ov ← eval o env
   standAt apos.atName
   let fx ← holding [ov] (getMethod ov x (do return (← importBound o env).getD true))
   let p ← (pure pos:Sem Pos)
   callWith p fx.1 fx.2 (backTo pos (starEach args env)) []):=by
 rw [arm_eval_Call,bare_base hb]
 have few:methodCallForm (args.length+([]:List Keyword).length) (backTo pos (starEach args env)) (backToKw pos (keywordEach [] env))=true:=by
  refine Bool.and_eq_true_iff.mpr ⟨Bool.and_eq_true_iff.mpr ⟨?_,rfl⟩,decide_eq_true (Nat.lt_trans (Nat.lt_of_le_of_lt (Nat.le_refl args.length) hl) (by decide))⟩
  have:=plain_any (pos:=pos) (env:=env) hs
  rw [List.any_eq_false] at this
  exact List.all_eq_true.mpr fun x hx=>Bool.not_eq_true' _ ▸ Bool.eq_false_iff.mpr (this x hx)
 unfold methodCall
 rw [few]
 have hpos:∀ o env,methodCallPos true o env apos pos=pure pos:=fun o env=>if_pos (beq_iff_eq.mpr hp)
 rw [hpos]
 rfl
theorem inB_eq {v:Value} {x:AV} (r:VR v x) (h:isInt x=true) {i:Int} {C:Value→Bool→Bool→Prop} (k:∀ j t,C (.int j t) (decide (j=i)) (decide (j=i))):C v (inB i v) (isThe i x):=inB_VR r h k
set_option tactic.hygienic true in
theorem eraseP_of {i:Int} {vs:List Value} {xs:List AV} (h:L2 VR vs xs):xs.all isInt=true→xs.any (isThe i)=true→∀ {C:Prop},
  (∀ j (hj:j < vs.length),inB i vs[j]=true→(∀ m (hm:m < vs.length),m < j→inB i vs[m]=false)→L2 VR (vs.eraseIdx j) (xs.eraseP (isThe i))→C)→C:=by
 induction h with
 | nil=>exact fun zz h=>nomatch h
 | @cons v x vs xs r t ih =>
  intro hall hany C kk
  rw [List.all_cons,Bool.and_eq_true] at hall
  have e:inB i v=isThe i x:=inB_VR r hall.1 (C:=fun zz a b=>a=b) fun zz zz=>rfl
  cases q:isThe i x with
  | true=>exact kk 0 (Nat.succ_pos _) (e.trans q) (fun m zz hm=>absurd hm (Nat.not_lt_zero _)) (by rw [List.eraseP_cons_of_pos q];exact t)
  | false =>
   rw [List.any_cons,q,Bool.false_or] at hany
   refine ih hall.2 hany fun j hj h1 h2 h3=>kk (j+1) (Nat.succ_lt_succ hj) h1 (fun m hm hmj=>?_) ?_
   ·cases m with
    | zero=>exact e.trans q
    | succ m=>exact h2 m (Nat.lt_of_succ_lt_succ hm) (Nat.lt_of_succ_lt_succ hmj)
   ·rw [List.eraseP_cons_of_neg (by rw [q];exact Bool.false_ne_true)]
    exact .cons r h3
theorem eraseIdx_le {arr:Array Value} {j:Nat} {n:Nat} (e:arr.size≤n):(arr.eraseIdxIfInBounds j).size≤n:=by
 rw [← Array.length_toList,Array.toList_eraseIdxIfInBounds]
 exact Nat.le_trans (List.length_eraseIdx_le _ _) e
set_option tactic.hygienic true in
theorem p_listM {a:Nat} {n:String} {vs:List Value} {xs:List AV} (hv:L2 VR vs xs) (S:k.St ρ H s) (h:vListM a n xs H Q) :
  wpAny (model k.c.prog k.c.w) A (call (.builtin ("list."++n)) (.ref a::vs)) (k.RE ρ Q) E s:=by
 have go:∀ {ys:List AV},H a=some (.list ys)→∀ {C:Prop},(∀ arr m,s.heap.get? a=some (listObj arr m)→L2 VR arr.toList ys→arr.size=ys.length→ys.length≤1000000→arr.size≤sizeLine→s.TypeIs (.ref a) "list" →
   (∀ (f:Array Value→Array Value) (zs:List AV),L2 VR (f arr).toList zs→(f arr).size≤lim→k.St ρ (upd H a (.list zs)) { s with heap:=s.heap.update a (Obj.mapSeq f) })→C)→C:=fun {ys} hl {C} kk =>
  St_list S hl fun arr m ho hx e hz=>kk arr m ho hx e hz (lim_line (e ▸ hz)) ⟨_,ho,rfl⟩ fun f zs h1 h2 =>
   St_putL S hl (ao:=.list ys) (xs:=zs) (n:=if (f arr).size == arr.size then m else m+1) s.toks ho rfl h1 h2
 cases h with
 | @pop ys hl hne hq =>
  cases hv
  refine go hl fun arr m ho hx e hz hsz hT put=>?_
  have hpos:0 < ys.length:=List.length_pos_iff.mpr hne
  obtain⟨v,hv,hr⟩:=hx.get (i:=ys.length - 1) (Nat.sub_lt hpos Nat.one_pos)
  rw [Array.getElem?_toList] at hv
  refine call_meets F.slot_list_pop hT F.entry_list_pop (F.args_list_pop_1 _) (list_pop_last a arr m v (by rw [e];exact hv) hsz) ⟨ho,_,_,hr,put _ ys.dropLast ?_ (eraseIdx_le (e ▸ hz)),hq⟩
  rw [Array.toList_eraseIdxIfInBounds,e,← List.eraseIdx_length_sub_one]
  exact hx.eraseIdx _
 | @app ys x hl hz' hq =>
  cases hv with
  | @cons v _ _ _ r t =>
   cases t
   refine go hl fun arr m ho hx e hz hsz hT put=>?_
   refine call_meets F.slot_list_append hT F.entry_list_append (F.args_list_append_2 _ _) (list_append a arr m v hsz) ⟨ho,_,_,.none,put _ (ys++[x]) ?_ ?_,hq⟩
   ·rw [Array.toList_push];exact hx.append (.cons r .nil)
   ·rw [Array.size_push,e];exact hz'
 | @popi ys i j hl hp hq =>
  cases hv with
  | @cons w _ _ _ r t =>
   cases t
   refine r.eInt (C:=fun w=>wpAny _ _ (call _ [_,w]) _ _ _) fun u=>go hl fun arr m ho hx e hz hsz hT put=>?_
   obtain⟨v,hv,hr⟩:=hx.get (place_lt hp)
   rw [Array.getElem?_toList] at hv
   have b:-1000000≤i∧i≤1000000:=place_b hp hz
   refine call_meets F.slot_list_pop hT F.entry_list_pop (F.args_list_pop_2 _ _) (list_pop_at a arr m i u j v (by simp [Builtin.List.listFitsIndex];omega) (by rw [e];exact place_seq hp) hv hsz) ⟨ho,_,_,hr,put _ (ys.eraseIdx j) ?_ (eraseIdx_le (e ▸ hz)),hq⟩
   rw [Array.toList_eraseIdxIfInBounds];exact hx.eraseIdx _
 | @rem ys i hl hall hany hq =>
  cases hv with
  | @cons w _ _ _ r t =>
   cases t
   refine r.eInt (C:=fun w=>wpAny _ _ (call _ [_,w]) _ _ _) fun u=>go hl fun arr m ho hx e hz hsz hT put=>eraseP_of hx hall hany fun j hj e1 e2 e3=>?_
   refine call_meets F.slot_list_remove hT F.entry_list_remove (F.args_list_remove_2 _ _) (list_remove a arr m (.int i u) (inB i) (fun y hy=>EqGives_inB (listInt hx hall y (Array.mem_toList_iff.mpr hy))) j hj e1 (fun q hq' hqj=>e2 q hq' hqj) hsz) ⟨ho,_,_,.none,put _ (ys.eraseP (isThe i)) ?_ (eraseIdx_le (e ▸ hz)),hq⟩
   rw [Array.toList_eraseIdxIfInBounds];exact e3
theorem valueAt_of {kvs:List (Int×Value)} {d:List (Int×AV)} (h:L2 KI kvs d) {i:Int} {v:Value} {w:AV} (hv:VR v w):VR ((valueAt kvs i).getD v) ((dget d i).getD w):=by
 induction h with
 | nil=>exact hv
 | @cons kv f kvs d r t ih =>
  show VR (Option.getD ((List.find? _ (kv::kvs)).map _) v) (Option.getD (if f.1=i then some f.2 else dget d i) w)
  rw [List.find?_cons]
  by_cases z:f.1=i
  ·rw [if_pos z,show decide (kv.1=i)=true from decide_eq_true (r.1.trans z)];exact r.2
  ·rw [if_neg z,show decide (kv.1=i)=false from decide_eq_false fun e=>z (r.1.symm.trans e)];exact ih
set_option tactic.hygienic true in
theorem p_dictM {a:Nat} {vs:List Value} {xs:List AV} (hv:L2 VR vs xs) (S:k.St ρ H s) (h:vDictM a xs H Q) :
  wpAny (model k.c.prog k.c.w) A (call (.builtin "dict.get") (.ref a::vs)) (k.RE ρ Q) E s:=by
 cases h with
 | @mk d i j hl hq =>
  cases hv with
  | cons r1 t1=>cases t1 with
   | cons r2 t2 =>
    cases t2
    refine r1.e2 r2 fun t u=>?_
    obtain⟨G,S1,V⟩:=id S
    obtain⟨kvs,hd,hx,hz,hm⟩:=(S1.hv a _ hl).2
    refine call_meetsIn F.slot_dict_get hd.mapOf.typeIs F.entry_dict_get (F.args_dict_get_3 _ _ _) (meets_dict_get_default (intKind k.c.prog k.c.w) a (k:=i) (key:=.int i t) (by simp [intKind,Value.isInt]) hm (.int j u)) ⟨_,hd.mapOf,?_⟩
    exact re_mk (valueAt_of hx (.int j u)) (S.toks _) hq
end
end Bm
namespace Bm
open PySem PySem.W PyProof.Rows PySem.SeqAt PySem.MeetsSeq
noncomputable def Kx.withP (k:Kx) (p:Addr×Obj):Kx:={ k with P:=p::k.P }
theorem Kx.Ok.withP {k:Kx} {K:Frag} (O:k.Ok K) (p:Addr×Obj):(k.withP p).Ok K:=⟨O.F,O.room,O.frames,O.hand,O.calls⟩
section
variable {k:Kx} {ρ:List AV} {H:AHeap} {s:Shared} {Q X:EQ} {E:Value→Shared→Prop} {A:Around} {K:Frag}
theorem Vr.moreP {G:Nat→Kd} {P P':List (Addr×Obj)} {env:Env} {nm ws:List String} {ρ:List AV} {h:Heap} (V:Vr G P env nm ws ρ h) (hs:∀ p∈P,p.2.data≠.dict #[] 0→p∈P' ) (hc:∀ c o v,(c,o)∈P→o.data=.cell v→(c,o)∈P'):Vr G P' env nm ws ρ h :=
 ⟨V.fn,V.gl,V.bi,V.loc,V.ns,fun x i e hk n=>let ⟨v,hr,hv⟩:=V.reads x i e hk n;⟨v,hr.imp id fun⟨ca,h1,h2,h3⟩=>⟨ca,h1,h2,h3.imp id fun⟨o,m,d⟩=>⟨o,hc _ _ _ m d,d⟩⟩,hv⟩,V.stores,V.cells,V.inj,V.len,fun x ca e=>(V.inP x ca e).imp id fun⟨o,v,h1,h2⟩=>⟨o,v,hc _ _ _ h1 h2,h2⟩,V.has⟩
theorem Vr.subP {G:Nat→Kd} {P P':List (Addr×Obj)} {env:Env} {nm ws:List String} {ρ:List AV} {h:Heap} (V:Vr G P env nm ws ρ h) (hc:∀ c o v,(c,o)∈P→o.data=.cell v→(c,o)∈P'):Vr G P' env nm ws ρ h :=
 ⟨V.fn,V.gl,V.bi,V.loc,V.ns,fun x i e hk n=>let ⟨v,hr,hv⟩:=V.reads x i e hk n;⟨v,hr.imp id fun⟨ca,h1,h2,h3⟩=>⟨ca,h1,h2,h3.imp id fun⟨o,m,d⟩=>⟨o,hc _ _ _ m d,d⟩⟩,hv⟩,V.stores,V.cells,V.inj,V.len,fun x ca e=>(V.inP x ca e).imp id fun⟨o,v,h1,h2⟩=>⟨o,v,hc _ _ _ h1 h2,h2⟩,V.has⟩
theorem St_protect (S:k.St ρ H s) (o:Obj) (ho:o.isFreed=false) (tk:Nat):(k.withP (s.heap.objs.size,o)).St ρ H { s with heap:=s.heap.push o,toks:=tk }:=by
 obtain⟨G,S1,V⟩:=S
 have g0:=S1.freeAt
 have S2:=(S1.garbage o tk).rekind (G':=gset G s.heap.objs.size .prot) (fun a ha=>gset_ne fun q=>ha (by rw [q,g0])) (fun a ha=>by
  by_cases q:a=s.heap.objs.size
  ·rw [q];exact⟨o,Heap.get?_push_size _ ho⟩
  ·rw [gset_ne q] at ha;obtain⟨o',e⟩:=S1.ex a ha;exact⟨o',Heap.get?_push_of_some _ e⟩)
 refine⟨_,⟨S2.keep,S2.ex,S2.hv,fun p hp=>?_,S2.frs,S2.gens,S2.drawn,S2.os⟩,(V.step (fun a ha=>by rw [gset_ne (fun q=>by rw [q,g0] at ha;cases ha),ha]) (fun x ca zz e=>by by_cases q:ca=s.heap.objs.size;(rw [q,gset_eq] at e;cases e);(rwa [gset_ne q] at e)) (fun a o zz e=>Heap.get?_push_of_some _ e)).subP fun c o v hm zz=>.tail _ hm⟩
 rcases List.mem_cons.mp hp with rfl | hp
 ·exact⟨gset_eq,.inl (Heap.get?_push_size _ ho)⟩
 ·exact S2.pv p hp
theorem St_release {d:Nat} {o:Obj} (S:(k.withP (d,o)).St ρ H s) (hnc:∀ v,o.data≠.cell v) (hnp:∀ p∈k.P,p.1≠d) {h':Heap} {tk:Nat} {ao:AO} (hs:Heap.SameBut d s.heap h') (ho:∀ G,Ob k.c (gset G d .obj) h' d ao) (hnf:∀ e∈k.fr,e.frame≠some d) (hk:kd ao=.obj:=by rfl) :
  H d=none∧k.St ρ (upd H d ao) { s with heap:=h',toks:=tk }:=by
 obtain⟨G,S1,V⟩:=S
 have gd:G d=.prot:=(S1.pv (d,o) (.head _)).1
 have hn:H d=none:=by
  cases hq:H d with
  | none=>rfl
  | some ao=>have:=(S1.hv _ _ hq).1;rw [gd] at this;exact absurd this.symm (kd_ne (fun q=>nomatch q) (fun q=>nomatch q))
 have gne:∀ a x,G a=x→x≠.prot→gset G d .obj a=x:=fun a x e n=>(gset_ne fun q=>n (by rw [← e,q,gd])).trans e
 have ne:∀ a,G a≠.prot→a≠d:=fun a h q=>h (by rw [q,gd])
 refine⟨hn,gset G d .obj,⟨fun b o e=>⟨gne _ _ (S1.keep b o e).1 (fun q=>nomatch q),(hs.2 b (ne b (by rw [(S1.keep b o e).1];exact fun q=>nomatch q))).trans (S1.keep b o e).2⟩,fun a ha=>?_,fun a ao' e=>?_,fun p hp=>?_,fun e he=>?_,S1.gens,S1.drawn,S1.os⟩,?_⟩
 ·by_cases q:a=d
  ·rw [q];exact(ho G).there
  ·rw [gset_ne q] at ha
   obtain⟨o',e⟩:=S1.ex a ha
   exact⟨o',(hs.2 a q).trans e⟩
 ·unfold upd at e
  split at e
  ·rename_i q;subst q;cases e;exact⟨gset_eq.trans hk.symm,ho G⟩
  ·have:=S1.hv a ao' e
   refine⟨gne _ _ this.1 (kd_ne (fun q=>nomatch q) (fun q=>nomatch q)),this.2.keep (fun b o' hb e'=>(hs.2 b (ne b ?_)).trans e') fun b q=>gne _ _ q (fun q=>nomatch q)⟩
   rcases hb with q | q
   ·rw [q,this.1];exact kd_ne (fun q=>nomatch q) (fun q=>nomatch q)
   ·rw [q];exact fun q=>nomatch q
 ·have:=S1.pv p (.tail _ hp)
  exact⟨(gset_ne (hnp p hp)).trans this.1,this.2.keep fun o' e=>(hs.2 _ (hnp p hp)).trans e⟩
 ·obtain⟨h1,L,o',h2,h3,h4,h5⟩:=S1.frs e he
  have hL:L≠d:=fun q=>hnf e he (by rw [h2,q])
  exact⟨h1,L,o',h2,by rw [gset_ne hL];exact h3,(hs.2 L hL).trans h4,h5⟩
 ·refine(V.step (fun a e=>gne _ _ e (fun q=>nomatch q)) (fun x ca zz e=>?_) (fun a o' e ho'=>(hs.2 a (ne a (by rw [e];exact fun q=>nomatch q))).trans ho')).subP fun c o' v hm hv=>?_
  ·by_cases q:ca=d
   ·rw [q,gset_eq] at e;cases e
   ·rw [gset_ne q] at e;exact e
  ·rcases List.mem_cons.mp hm with q | q
   ·cases q;exact absurd hv (hnc v)
   ·exact q
theorem St_old (S:k.St ρ H s):(∀ p∈k.P,p.1≠s.heap.objs.size)∧(∀ e∈k.fr,e.frame≠some s.heap.objs.size):=by
 obtain⟨G,S1,V⟩:=S
 refine⟨fun p hp q=>?_,fun e he q=>?_⟩
 ·have:=(S1.pv p hp).1;rw [q,S1.freeAt] at this;cases this
 ·obtain⟨_,L,o,h2,_,h4,_⟩:=S1.frs e he
  rw [h2] at q;cases q
  exact Nat.lt_irrefl _ (Heap.lt_size h4)
theorem low_sys {h:Heap} (hl:h.NoLimit):(h.objs.size == sysModules)=false:=by
 have h0:=PyProof.Rows.modules_low hl
 refine beq_eq_false_iff_ne.mpr fun q=>?_
 rw [q] at h0
 exact absurd h0 (Nat.lt_irrefl _)
theorem strAt_of {kvs:List (Str×Value)} {d:List (String×AV)} (h:L2 KS kvs d) {i:String} {w:AV}:fget d i=some w→∃ v,valueAt kvs (Str.ofString i)=some v∧VR v w:=by
 induction h with
 | nil=>exact fun q=>nomatch q
 | @cons kv f kvs d r t ih =>
  intro hq
  have hq:(if f.1=i then some f.2 else fget d i)=some w:=hq
  unfold valueAt
  rw [List.find?_cons]
  by_cases z:f.1=i
  ·rw [if_pos z] at hq
   rw [show decide (kv.1=Str.ofString i)=true from decide_eq_true (r.1.trans (congrArg _ z))]
   exact⟨kv.2,rfl,Option.some.inj hq ▸ r.2⟩
  ·rw [if_neg z] at hq
   rw [show decide (kv.1=Str.ofString i)=false from decide_eq_false fun e=>z (ofString_inj (r.1.symm.trans e))]
   exact ih hq
@[elab_as_elim] theorem deck_e {x:AV} {n:String} {o:Value} {F:AV→Prop} {C:Value→Prop} (h:vKey x n H F) (hx:VR o x) (S:k.St ρ H s) (kk:∀ a v w kvs,Heap.DictOf (strKind k.c.prog k.c.w) s.heap a kvs→valueAt kvs (Str.ofString n)=some v→VR v w→F w→C (.ref a)):C o:=by
 cases h with
 | mk hl hg hq =>
  obtain⟨G,S1,V⟩:=S
  obtain⟨kvs,hd,hxs,hz,hm⟩:=(S1.hv _ _ hl).2
  obtain⟨v,v1,v2⟩:=strAt_of hxs hg
  exact hx.eRef (kk _ v _ kvs hd v1 v2 hq)
set_option tactic.hygienic true in
theorem p_key {value slice:Expr} {o:Value} {x:AV} {n:String} {t:Tok} (hx:VR o x) (S:k.St ρ H s) (h:vKey x n H fun v=>Q v H):wpAny (model k.c.prog k.c.w) A (subscriptTail value slice o (.str (Str.ofString n) t)) (k.RE ρ Q) E s :=
 deck_e h hx S fun a v w kvs hd v1 v2 hq =>
  let ⟨_,hs⟩:=hs_tail slice (.ref a) (.str (Str.ofString n) t)
  tail_any hd.mapOf.typeIs slot_dict_getitem.lookup (wpAny_getItem_of (strKind_is _ _ _ _) hd.mapOf v1 (re_mk v2 (S.toks _) hq)) hs
set_option tactic.hygienic true in
theorem p_getK {o:Value} {x:AV} {n:String} {t:Tok} {F:AV→Prop} (hx:VR o x) (S:k.St ρ H s) (h:vKey x n H F) {Q':Value→Shared→Prop} (kk:∀ v av s',VR v av→k.St ρ H s'→F av→Q' v s'):wpAny (model k.c.prog k.c.w) A (getItem o (.str (Str.ofString n) t)) Q' E s :=
 deck_e h hx S fun a v w kvs hd v1 v2 hq=>wpAny_getItem_of (strKind_is _ _ _ _) hd.mapOf v1 (kk _ _ _ v2 (S.toks _) hq)
theorem stored_str {kvs:List (Str×Value)} {d:List (String×AV)} (h:L2 KS kvs d) (hn:(kvs.map (·.1)).Nodup) {i:String} {v:Value} {w w₀:AV} (hv:VR v w) (hg:fget d i=some w₀):L2 KS (stored kvs (Str.ofString i) v) (fset d i w)∧(stored kvs (Str.ofString i) v).length=kvs.length:=by
 have key:∀ {kvs:List (Str×Value)} {d:List (String×AV)},L2 KS kvs d→(kvs.map (·.1)).Nodup→(∃ w₀,fget d i=some w₀)→kvs.any (fun kv=>kv.1=Str.ofString i)=true∧L2 KS (kvs.map fun kv=>if kv.1=Str.ofString i then(kv.1,v) else kv) (fset d i w):=by
  intro kvs d h
  induction h with
  | nil=>rintro _ ⟨_,e⟩;cases e
  | @cons kv f kvs d r t ih =>
   intro hn ⟨w₀,hg⟩
   obtain⟨q,w'⟩:=f
   obtain⟨q',v'⟩:=kv
   obtain⟨e,hv'⟩:=r
   dsimp only at e hv'
   subst e
   unfold fget at hg
   unfold fset
   rw [List.map_cons,List.nodup_cons] at hn
   rw [List.any_cons,List.map_cons]
   by_cases z:q=i
   ·subst z
    refine⟨by simp,?_⟩
    rw [if_pos rfl]
    dsimp only
    rw [if_pos rfl]
    refine .cons ⟨rfl,hv⟩ ?_
    have same:kvs.map (fun kv=>if kv.1=Str.ofString q then(kv.1,v) else kv)=kvs:=by
     conv=>rhs;rw [← List.map_id kvs]
     refine List.map_congr_left fun kv hm=>?_
     rw [if_neg];rfl
     intro e
     exact hn.1 (List.mem_map.mpr ⟨kv,hm,e⟩)
    rw [same];exact t
   ·have z':¬ Str.ofString q=Str.ofString i:=fun e=>z (ofString_inj e)
    rw [if_neg z] at hg
    obtain⟨i1,i2⟩:=ih hn.2 ⟨w₀,hg⟩
    refine⟨by rw [i1,Bool.or_true],?_⟩
    rw [if_neg z]
    dsimp only
    rw [if_neg z']
    exact .cons ⟨rfl,hv'⟩ i2
 obtain⟨k1,k2⟩:=key h hn ⟨w₀,hg⟩
 unfold stored
 rw [if_pos k1]
 exact⟨k2,List.length_map _⟩
theorem DictOf_nodup {κ:Type} [DecidableEq κ] {p:Program} {w:World} {knd:PySem.KeyKind p w κ} {h:Heap} {a:Addr} {kvs:List (κ×Value)} (hd:Heap.DictOf knd h a kvs):(kvs.map (·.1)).Nodup:=by
 obtain⟨_,_,_,h⟩:=hd;exact h.2.2.2.2.2
theorem St_putD {G:Nat→Kd} (S1:StC k.c G k.fr k.P H s) (V:Vr G k.P k.env k.nm k.ws ρ s.heap) {a:Nat} {h':Heap} {tk:Nat} (ga:G a=.obj) (hs:Heap.SameBut a s.heap h') {ao:AO} (ho:Ob k.c G h' a ao) (hk:kd ao=.obj:=by rfl):k.St ρ (upd H a ao) { s with heap:=h',toks:=tk } :=
 ⟨G,S1.put ga hs ho hk,V.heap fun b o hb e=>(hs.2 b fun q=>by rw [q,ga] at hb;exact nomatch hb).trans e⟩
set_option tactic.hygienic true in
theorem p_setK {o v:Value} {x y:AV} {n:String} {t:Tok} {F:AHeap→Prop} (hx:VR o x) (hy:VR v y) (S:k.St ρ H s) (h:vSetK x n y H F) {Q':Unit→Shared→Prop} (kk:∀ H' s',k.St ρ H' s'→F H'→Q' () s'):wpAny (model k.c.prog k.c.w) A (setItem o (.str (Str.ofString n) t) v) Q' E s:=by
 obtain⟨G,S1,V⟩:=S
 cases h with
 | mk hl hg hq =>
  obtain⟨ga,kvs,hd,hxs,hz,hm⟩:=S1.hv _ _ hl
  obtain⟨k1,k2⟩:=stored_str hxs (DictOf_nodup hd) hy hg
  exact hx.eRef (wpAny_setItem_pairs (knd:=strKind k.c.prog k.c.w) (strKind_is _ _ _ _) hd (fun h' hd' hs=>kk _ _ (St_putD S1 V ga hs (ao:=.deck _) ⟨_,hd',k1,by rw [k2];exact hz,hm⟩) hq) (lim_line hz))
theorem stored_int {kvs:List (Int×Value)} {d:List (Int×AV)} (h:L2 KI kvs d) (hn:(kvs.map (·.1)).Nodup) {i:Int} {v:Value} {w:AV} (hv:VR v w):L2 KI (stored kvs i v) (dset d i w)∧(stored kvs i v).length≤kvs.length+1:=by
 have key:∀ {kvs:List (Int×Value)} {d:List (Int×AV)},L2 KI kvs d→(kvs.map (·.1)).Nodup →
   (kvs.any (fun kv=>kv.1=i)=true→L2 KI (kvs.map fun kv=>if kv.1=i then(kv.1,v) else kv) (dset d i w))∧(kvs.any (fun kv=>kv.1=i)=false→L2 KI (kvs++[(i,v)]) (dset d i w)):=by
  intro kvs d h
  induction h with
  | nil=>intro _;exact⟨fun e=>by simp at e,fun zz=>.cons ⟨rfl,hv⟩ .nil⟩
  | @cons kv f kvs d r t ih =>
   intro hn
   obtain⟨q,w'⟩:=f
   obtain⟨q',v'⟩:=kv
   obtain⟨e,hv'⟩:=r
   dsimp only at e hv'
   subst e
   unfold dset
   rw [List.map_cons,List.nodup_cons] at hn
   rw [List.any_cons,List.map_cons]
   by_cases z:q'=i
   ·subst z
    refine⟨fun zz=>?_,fun e=>by simp at e⟩
    rw [if_pos rfl]
    dsimp only
    rw [if_pos rfl]
    refine .cons ⟨rfl,hv⟩ ?_
    have same:kvs.map (fun kv=>if kv.1=q' then(kv.1,v) else kv)=kvs:=by
     conv=>rhs;rw [← List.map_id kvs]
     refine List.map_congr_left fun kv hm=>?_
     rw [if_neg];rfl
     intro e
     exact hn.1 (List.mem_map.mpr ⟨kv,hm,e⟩)
    rw [same];exact t
   ·obtain⟨i1,i2⟩:=ih hn.2
    have dz:decide (q'=i)=false:=decide_eq_false z
    rw [dz,Bool.false_or,if_neg z]
    rw [if_neg z]
    exact⟨fun e=>.cons ⟨rfl,hv'⟩ (i1 e),fun e=>.cons ⟨rfl,hv'⟩ (i2 e)⟩
 obtain⟨k1,k2⟩:=key h hn
 unfold stored
 cases hq:kvs.any (fun kv=>kv.1=i) with
 | true=>rw [if_pos rfl];exact⟨k1 hq,by rw [List.length_map];lia⟩
 | false=>rw [if_neg (by simp)];exact⟨k2 hq,by rw [List.length_append];exact Nat.le_refl _⟩
set_option tactic.hygienic true in
theorem p_setI {o i v:Value} {x y z:AV} {F:AHeap→Prop} (hx:VR o x) (hy:VR i y) (hz:VR v z) (S:k.St ρ H s) (h:vSetI x y z H F) {Q':Unit→Shared→Prop} (kk:∀ H' s',k.St ρ H' s'→F H'→Q' () s'):wpAny (model k.c.prog k.c.w) A (setItem o i v) Q' E s:=by
 cases h with
 | @list l i xs hl hb hq =>
  refine hx.eRef (hy.eInt fun t=>St_list S hl fun arr n ho hxs e hsz=>?_)
  have hlim:xs.length≤1000000:=hsz
  refine ki_setAt ho hb.1 (by have:=hb.2;lia) (by rw [e];exact hb.2) (kk _ _ (St_putL S hl (ao:=.list xs) (arr:=arr.setIfInBounds i.toNat v) (n:=if (arr.setIfInBounds i.toNat v).size == arr.size then n else n+1) s.toks ho rfl ?_ ?_) hq)
  ·rw [Array.toList_setIfInBounds];exact hxs.set hz _
  ·rw [Array.size_setIfInBounds,e];exact hsz
 | @dict l i d hl hlt hi hq =>
  refine hx.eRef (hy.eInt fun t=>?_)
  obtain⟨G,S1,V⟩:=S
  obtain⟨ga,kvs,hd,hxs,hsz,hm⟩:=S1.hv _ _ hl
  obtain⟨k1,k2⟩:=stored_int hxs (DictOf_nodup hd) (i:=i) hz
  exact wpAny_setItem_pairs (knd:=intKind k.c.prog k.c.w) (intKind_is _ _ _ _) hd (fun h' hd' hs=>kk _ _ (St_putD S1 V ga hs (ao:=.idict _) ⟨_,hd',k1,Nat.le_trans k2 (by rw [hxs.length];exact hlt),hm⟩) hq) (lim_line hsz)
theorem p_dict0 (O:k.Ok K) {pos:Pos} (S:k.St ρ H s) (h:∀ a,H a=none→Q (.ref a) (upd H a (.idict []))):wpAny (model k.c.prog k.c.w) A (eval (.Dict [] [] pos) k.env) (k.RE ρ Q) E s:=by
 rw [eval_Dict_empty]
 obtain⟨G,S1,V⟩:=S
 have hl:s.heap.NoLimit:=O.F.nolim.keeps fun b o e=>(S1.keep b o e).2
 refine wpAny_bind (wpAny_standAt ?_)
 unfold newDict
 refine wpAny_newObj_type ⟨.ref s.heap.objs.size,_,.ref _,⟨_,S1.alloc s.toks (ao:=.idict []) ⟨[],Heap.DictOf.new s.heap,.nil,Nat.zero_le _,low_sys hl⟩,V.step (fun a ha=>by rw [gset_ne (fun q=>by rw [q,S1.freeAt] at ha;cases ha),ha]) (fun x ca zz e=>by by_cases q:ca=s.heap.objs.size;(rw [q,gset_eq] at e;cases e);(rwa [gset_ne q] at e)) (fun a o zz e=>Heap.get?_push_of_some _ e)⟩,h _ S1.hnone⟩
end
end Bm
namespace Bm
open PySem PySem.W PyProof.Rows PySem.SeqAt PySem.MeetsSeq
section
variable {k:Kx} {ρ:List AV} {H:AHeap} {s:Shared} {Q X:EQ} {E:Value→Shared→Prop} {A:Around} {K:Frag}
theorem St_made (S:k.St ρ H s) {h':Heap} {tk:Nat} {arr:Array Value} {n:Nat} {xs:List AV} (hk:∀ b o,s.heap.get? b=some o→h'.get? b=some o) (ho:h'.get? s.heap.objs.size=some (listObj arr n)) (hx:L2 VR arr.toList xs) (hz:arr.size≤lim) :
  H s.heap.objs.size=none∧k.St ρ (upd H s.heap.objs.size (.list xs)) { s with heap:=h',toks:=tk }:=by
 obtain⟨G,S1,V⟩:=S
 have g0:=S1.freeAt
 refine⟨S1.hnone,gset G s.heap.objs.size .obj,?_,V.step (fun a ha=>by rw [gset_ne (fun q=>by rw [q,g0] at ha;cases ha),ha]) (fun x ca zz e=>by by_cases q:ca=s.heap.objs.size;(rw [q,gset_eq] at e;cases e);(rwa [gset_ne q] at e)) (fun a o zz e=>hk a o e)⟩
 have S2:=(S1.grow (tk:=tk) hk).rekind (G':=gset G s.heap.objs.size .obj) (fun a ha=>gset_ne fun q=>ha (by rw [q,g0])) (fun a ha=>by
  by_cases q:a=s.heap.objs.size
  ·rw [q];exact⟨_,ho⟩
  ·rw [gset_ne q] at ha;obtain⟨o',e⟩:=S1.ex a ha;exact⟨o',hk _ _ e⟩)
 refine⟨S2.keep,S2.ex,fun a ao' e=>?_,S2.pv,S2.frs,S2.gens,S2.drawn,S2.os⟩
 unfold upd at e
 split at e
 ·rename_i q;subst q;cases e;exact⟨gset_eq,arr,n,ho,hx,hz⟩
 ·exact S2.hv a ao' e
theorem p_slice {value slice:Expr} {l:Nat} {xs zs:List AV} {vl vu vs:Value} {lo hi st:Option Int} {tk:Nat} (S:k.St ρ H s) (hl:H l=some (.list xs)∨H l=some (.ro xs)) (pl:IsPart vl lo) (pu:IsPart vu hi) (ps:IsPart vs st) (h0:st≠some 0)
  (hp:∀ arr:Array Value,L2 VR arr.toList xs→L2 VR (slicePick arr lo hi st).toList zs) (h:∀ a,H a=none→Q (.ref a) (upd H a (.list zs))) :
  wpAny (model k.c.prog k.c.w) A (subscriptTail value slice (.ref l) (.ref s.heap.objs.size)) (k.RE ρ Q) E { s with heap:=s.heap.push { cls:=.type "slice",data:=.fields #[vl,vu,vs] },toks:=tk }:=by
 have S2:=St_garb S { cls:=.type "slice",data:=.fields #[vl,vu,vs] } tk
 obtain⟨G,S1,V⟩:=id S
 obtain⟨arr,hl',hxs,hz⟩:∃ arr,s.heap.IsList l arr∧L2 VR arr.toList xs∧arr.size≤lim:=by
  rcases hl with hl | hl
  ·obtain⟨arr,n,ho,r,z⟩:=(S1.hv l _ hl).2
   exact⟨arr,PySem.IsL.isList (n:=n) ho,r,z⟩
  ·exact(S1.hv l _ hl).2
 obtain⟨ops,hs⟩:=hs_tail slice (.ref l) (.ref s.heap.objs.size)
 refine tail_any (hl'.push _).typeIs slot_list_getitem.lookup ?_ hs
 refine wpAny_getItem_list_slice (hl'.push _) (Heap.IsSliceOf.new ..) pl pu ps h0 ?_ (lim_line hz)
 exact St_newL S2 (hp arr hxs) (Nat.le_trans (slicePick_size_le ..) hz) tk h
theorem p_len {v:Value} {x:AV} (h:onL x H fun xs=>Q (.int xs.length) H) (hx:VR v x) (S:k.St ρ H s) :
  wpAny (model k.c.prog k.c.w) A (call (.builtin "len") [v]) (k.RE ρ Q) E s:=by
 obtain⟨hl,h⟩:=h
 refine hx.eRef (St_list S hl fun arr n ho hxs e hz=>?_)
 refine Calls.call_len_list (PySem.IsL.isList (n:=n) ho) (by rw [e];exact Int.lt_of_le_of_lt (Int.ofNat_le.2 hz) (by decide)) (re_mk (.int _ _) (S.toks _) ?_)
 rw [e];exact h
theorem p_abs {v:Value} {x:AV} (h:isI x fun i=>Q (.int (if i < 0 then -i else i)) H) (hx:VR v x) (S:k.St ρ H s) :
  wpAny (model k.c.prog k.c.w) A (call (.builtin "abs") [v]) (k.RE ρ Q) E s :=
 VR.isI h hx fun i t q=>call_abs_int fun u tk=>re_mk (.int _ _) (S.toks _) q
set_option tactic.hygienic true in
theorem p_max2 {v w:Value} {x y:AV} (h:int2 x y fun i j=>Q (.int (max i j)) H) (hx:VR v x) (hy:VR w y) (hh:A.handled=none) (S:k.St ρ H s) :
  wpAny (model k.c.prog k.c.w) A (call (.builtin "max") [v,w]) (k.RE ρ Q) E s:=by
 refine int2_e h hx hy fun i j t u q=>max_two_ints hh fun h' tk hk=>?_
 by_cases c:j > i
 ·rw [if_pos c];rw [Int.max_eq_right (Int.le_of_lt c)] at q;exact re_mk (.int _ _) (St_grow S hk) q
 ·rw [if_neg c];rw [Int.max_eq_left (Int.not_lt.mp c)] at q;exact re_mk (.int _ _) (St_grow S hk) q
set_option tactic.hygienic true in
theorem p_min2 {v w:Value} {x y:AV} (h:int2 x y fun i j=>Q (.int (min i j)) H) (hx:VR v x) (hy:VR w y) (hh:A.handled=none) (S:k.St ρ H s) :
  wpAny (model k.c.prog k.c.w) A (call (.builtin "min") [v,w]) (k.RE ρ Q) E s:=by
 refine int2_e h hx hy fun i j t u q=>min_two_ints hh fun h' tk hk=>?_
 by_cases c:j < i
 ·rw [if_pos c];rw [Int.min_eq_right (Int.le_of_lt c)] at q;exact re_mk (.int _ _) (St_grow S hk) q
 ·rw [if_neg c];rw [Int.min_eq_left (Int.not_lt.mp c)] at q;exact re_mk (.int _ _) (St_grow S hk) q
theorem ints_of:∀ {vs:List Value} {ns:List Int},L2 VR vs (ns.map AV.int)→∃ ps:List (Int×Tok),ps.map (·.1)=ns∧vs=ps.map fun p=>Value.int p.1 p.2
 | [],[],_=>⟨[],rfl,rfl⟩
 | [],_::_,h=>nomatch h
 | _::_,[],h=>nomatch h
 | v::vs,n::ns,.cons r t=>by
  obtain⟨ps,e1,e2⟩:=ints_of t
  cases r with
  | int i u=>exact⟨(n,u)::ps,by rw [List.map_cons,e1],by rw [e2];rfl⟩
theorem p_maxl {v:Value} {x:AV} (h:onL x H fun xs=>xs≠[]∧∃ ns:List Int,xs=ns.map AV.int∧∀ m,m∈ns→(∀ k∈ns,k≤m)→Q (.int m) H) (hx:VR v x) (hh:A.handled=none) (S:k.St ρ H s) :
  wpAny (model k.c.prog k.c.w) A (call (.builtin "max") [v]) (k.RE ρ Q) E s:=by
 obtain⟨hl,hne,ns,rfl,hq⟩:=h
 refine hx.eRef (St_list S hl fun arr n ho hxs zz zz=>?_)
 obtain⟨ps,e1,e2⟩:=ints_of hxs
 have ea:arr=intItems ps.toArray:=by
  rw [← Array.toList_inj,e2];simp [intItems]
 have hl':=ea ▸ PySem.IsL.isList (n:=n) ho
 have hpos:0 < ps.length:=by
  cases ps with
  | nil=>exact absurd (by rw [← e1];rfl) hne
  | cons=>simp
 refine max_intList hh hl' (by simpa using hpos) fun v h' tk hv hk=>?_
 obtain⟨g1,g2⟩:=argBest_gt (numAt ps.toArray) (ps.toArray.size - 1)
 obtain⟨t,rfl⟩:=intItems_at hv
 generalize argBest (fun i j=>decide (numAt ps.toArray i > numAt ps.toArray j)) (ps.toArray.size - 1)=j at g1 g2 hv ⊢
 have hn:∀ (i:Nat) (hi:i < ps.length),numAt ps.toArray i=ns[i]'(by rw [← e1];simpa using hi):=fun i hi=>by
  subst e1
  simp [numAt,hi]
 have hsz:ps.toArray.size=ps.length:=List.size_toArray ..
 have hj:j < ps.length:=by lia
 refine re_mk (.int _ _) (St_grow S hk) (hq _ ?_ fun m hm=>?_)
 ·rw [hn j hj];exact List.getElem_mem _
 ·obtain⟨i,hi,rfl⟩:=List.mem_iff_getElem.mp hm
  have hi':i < ps.length:=by rw [← e1] at hi;simpa using hi
  rw [← hn i hi']
  exact g2 i (by lia)
theorem p_copy {v:Value} {x:AV} (h:onL x H fun xs=>∀ a,H a=none→Q (.ref a) (upd H a (.list xs))) (hx:VR v x) (S:k.St ρ H s) :
  wpAny (model k.c.prog k.c.w) A (call (.type "list") [v]) (k.RE ρ Q) E s:=by
 obtain⟨hl,h⟩:=h
 refine hx.eRef (St_list S hl fun arr n ho hxs e hz=>?_)
 have hz:arr.size≤lim:=e ▸ hz
 refine call_list_seq _ (.inl rfl) ho rfl rfl (fun h' c' hk hn=>?_) (lim_line hz)
 obtain⟨h1,h2⟩:=St_made S (tk:=s.toks) hk hn hxs hz
 exact re_mk (.ref _) h2 (h _ h1)
theorem range_small {lo hi:Int} (h:-(2 ^ 40) < lo∧lo < 2 ^ 40∧-(2 ^ 40) < hi∧hi < 2 ^ 40):Builtin.Range.small lo hi 1=true:=by
 obtain⟨h1,h2,h3,h4⟩:=h
 exact small_one (by lia) (by lia) (by lia) (by lia)
theorem range_size (lo hi:Int):Builtin.Range.rangeSize lo hi 1=((hi - lo).toNat:Int):=by rw [rangeSize_one];split <;> lia
theorem ints_L2 {lo:Int}:∀ {vs:List Value} {n:Nat},vs.length=n→(∀ (i:Nat) v,vs[i]? = some v→∃ t,v=Value.int (lo+(i:Int)) t)→L2 VR vs ((List.range n).map fun(k:Nat)=>AV.int (lo+(k:Int))):=by
 intro vs n hn hv
 have key:∀ (m:Nat),m≤n→L2 VR (vs.take m) ((List.range m).map fun(k:Nat)=>AV.int (lo+(k:Int))):=by
  intro m
  induction m with
  | zero=>intro _;rw [List.take_zero];exact .nil
  | succ m ih =>
   intro hm
   have hlt:m < vs.length:=by lia
   rw [List.range_succ,List.map_append,List.take_succ_eq_append_getElem hlt]
   refine(ih (by lia)).append ?_
   obtain⟨t,e⟩:=hv m _ (List.getElem?_eq_getElem hlt)
   rw [e]
   exact .cons (.int _ t) .nil
 have:=key n (Nat.le_refl _)
 rwa [List.take_of_length_le (by lia)] at this
theorem p_listR {lo hi:Int} {r:Nat} {t u v:Tok} (hh:A.handled=none) (S:k.St ρ H s) (hr:IsRange s.heap r lo hi 1 t u v) (hb:-(2 ^ 40) < lo∧lo < 2 ^ 40∧-(2 ^ 40) < hi∧hi < 2 ^ 40) (hlen:hi - lo≤lim) (h:∀ a,H a=none→Q (.ref a) (upd H a (.list (Bm.iRng lo hi)))) :
  wpAny (model k.c.prog k.c.w) A (call (.type "list") [.ref r]) (k.RE ρ Q) E s:=by
 have hl:((hi - lo).toNat:Nat)≤lim:=by unfold lim at hlen ⊢;lia
 refine call_list_range hh hr (range_small hb) (range_size lo hi) (by unfold lim at hl;lia) fun h' tk acc' c' hk hn hi'=>?_
 obtain⟨i1,i2⟩:=hi'
 have hx:L2 VR acc'.toList (Bm.iRng lo hi):=ints_L2 (by rw [Array.length_toList];exact i1) fun i v e=>by
  rw [Array.getElem?_toList] at e
  have:=i2 i v e
  simpa using this
 obtain⟨h1,h2⟩:=St_made S (tk:=tk) hk hn hx (by rw [i1];exact hl)
 exact re_mk (.ref _) h2 (h _ h1)
end
end Bm
namespace Bm
open PySem PySem.W PyProof.Rows PySem.SeqAt PySem.MeetsSeq
section
variable {k:Kx} {ρ:List AV} {H:AHeap} {s:Shared} {Q X:EQ} {E:Value→Shared→Prop} {A:Around} {K:Frag}
noncomputable def Own (k:Kx) (I:Nat):Prop:=(∀ p∈k.P,p.1≠I)∧∀ e∈k.fr,e.frame≠some I
theorem StC.lessP {c:Cx} {G:Nat→Kd} {fr:List Env} {P P':List (Addr×Obj)} (S:StC c G fr P H s) (h:∀ p∈P',p∈P):StC c G fr P' H s :=
 ⟨S.keep,S.ex,S.hv,fun p hp=>S.pv p (h p hp),S.frs,S.gens,S.drawn,S.os⟩
noncomputable def Kx.onP (k:Kx) (P:List (Addr×Obj)):Kx:={ k with P }
theorem Kx.Ok.onP {k:Kx} {K:Frag} (O:k.Ok K) (P:List (Addr×Obj)):(k.onP P).Ok K:=⟨O.F,O.room,O.frames,O.hand,O.calls⟩
theorem St_lessP {P':List (Addr×Obj)} (S:k.St ρ H s) (h:∀ p∈P',p∈k.P) (hc:∀ c o v,(c,o)∈k.P→o.data=.cell v→(c,o)∈P'):(k.onP P').St ρ H s :=
 let ⟨G,S1,V⟩:=S;⟨G,S1.lessP h,V.subP hc⟩
theorem St_getP {d:Nat} {o:Obj} (S:(k.withP (d,o)).St ρ H s) (hd:∀ es n,o.data≠.dict es n):s.heap.get? d=some o:=by
 obtain⟨G,S1,V⟩:=S
 rcases(S1.pv (d,o) (.head _)).2 with h | ⟨⟨_,es,n,h⟩,_⟩
 ·exact h
 ·exact absurd h (hd es n)
theorem St_ownG {d:Nat} {o:Obj} {G:Nat→Kd} (own:Own k d) (S1:StC k.c G k.fr ((d,o)::k.P) H s) {h':Heap} {tk:Nat} (hk:∀ b o,b≠d→s.heap.get? b=some o→h'.get? b=some o) {G':Nat→Kd} (hG:∀ a,a≠d→G' a=G a)
  (hd:G' d≠.free→∃ o,h'.get? d=some o):StC k.c G' k.fr k.P H { s with heap:=h',toks:=tk }:=by
 have gd:G d=.prot:=(S1.pv (d,o) (.head _)).1
 have ne:∀ b x,G b=x→x≠.prot→b≠d:=fun b x e n q=>n (by rw [← e,q,gd])
 refine⟨fun b o e=>?_,fun a ha=>?_,fun a ao e=>?_,fun p hp=>?_,fun e he=>?_,S1.gens,S1.drawn,S1.os⟩
 ·have q:=S1.keep b o e
  have n:=ne b _ q.1 (fun q=>nomatch q)
  exact⟨(hG b n).trans q.1,hk b o n q.2⟩
 ·by_cases q:a=d
  ·subst q;exact hd ha
  ·rw [hG a q] at ha;obtain⟨o',e⟩:=S1.ex a ha;exact⟨o',hk a o' q e⟩
 ·have q:=S1.hv a ao e
  have n:=ne a _ q.1 (kd_ne (fun q=>nomatch q) (fun q=>nomatch q))
  refine⟨(hG a n).trans q.1,q.2.keep (fun b o' hb ho=>hk b o' ?_ ho) fun b e=>(hG b (ne b _ e (fun q=>nomatch q))).trans e⟩
  rcases hb with rfl | hb
  ·exact n
  ·exact ne b _ hb (fun q=>nomatch q)
 ·have q:=S1.pv p (.tail _ hp)
  have n:=own.1 p hp
  exact⟨(hG _ n).trans q.1,q.2.keep fun o ho=>hk _ o n ho⟩
 ·obtain⟨h1,L,o',h2,h3,h4,h5⟩:=S1.frs e he
  have n:L≠d:=fun q=>own.2 e he (by rw [h2,q])
  exact⟨h1,L,o',h2,by rw [hG L n];exact h3,hk L o' n h4,h5⟩
theorem St_dropP {d:Nat} {o:Obj} (own:Own k d) (ho:∀ v,o.data≠.cell v) (S:(k.withP (d,o)).St ρ H s) {h':Heap} {tk:Nat} (hk:∀ b o,b≠d→s.heap.get? b=some o→h'.get? b=some o):k.St ρ H { s with heap:=h',toks:=tk }:=by
 obtain⟨G,S1,V⟩:=S
 have gd:G d=.prot:=(S1.pv (d,o) (.head _)).1
 have ne:∀ a,G a=.var→a≠d:=fun a e q=>by rw [q,gd] at e;cases e
 refine⟨gset G d .free,St_ownG own S1 hk (fun a ha=>gset_ne ha) (fun q=>absurd gset_eq q),?_⟩
 refine(V.step (fun a e=>(gset_ne (ne a e)).trans e) (fun x ca zz e=>?_) (fun a o e ho=>hk a o (ne a e) ho)).subP fun c o' v hm hv=>?_
 ·by_cases q:ca=d
  ·rw [q,gset_eq] at e;cases e
  ·rwa [gset_ne q] at e
 ·rcases List.mem_cons.mp hm with q | q
  ·cases q;exact absurd hv (ho v)
  ·exact q
theorem St_setP {d:Nat} {o o':Obj} (own:Own k d) (ho:∀ v,o.data≠.cell v) (S:(k.withP (d,o)).St ρ H s) {h':Heap} {tk:Nat} (hk:∀ b o,b≠d→s.heap.get? b=some o→h'.get? b=some o) (hd:h'.get? d=some o') :
  (k.withP (d,o')).St ρ H { s with heap:=h',toks:=tk }:=by
 obtain⟨G,S1,V⟩:=S
 have gd:G d=.prot:=(S1.pv (d,o) (.head _)).1
 have ne:∀ a,G a=.var→a≠d:=fun a e q=>by rw [q,gd] at e;cases e
 have S2:=St_ownG own S1 (tk:=tk) hk (fun a zz=>(rfl:G a=G a)) (fun zz=>⟨o',hd⟩)
 refine⟨G,⟨S2.keep,S2.ex,S2.hv,fun p hp=>?_,S2.frs,S2.gens,S2.drawn,S2.os⟩,(V.heap (fun a o e ho=>hk a o (ne a e) ho)).subP fun c o'' v hm hv=>?_⟩
 ·rcases List.mem_cons.mp hp with rfl | hp
  ·exact⟨gd,.inl hd⟩
  ·exact S2.pv p hp
 ·rcases List.mem_cons.mp hm with q | q
  ·cases q;exact absurd hv (ho v)
  ·exact .tail _ q
noncomputable def IterOf (src:Src) (xs:List AV) (v:Value) (H:AHeap) (h:Heap):Prop:=match src with
 | .lst l ys=>xs=ys∧v=.ref l∧H l=some (.list ys)
 | .tup l ys=>xs=ys∧v=.ref l∧H l=some (.tup ys)
 | .rng=>∃ r lo hi t u w,v=.ref r∧IsRange h r lo hi 1 t u w∧(-(2 ^ 40) < lo∧lo < 2 ^ 40∧-(2 ^ 40) < hi∧hi < 2 ^ 40)∧xs=Bm.iRng lo hi
noncomputable def rngO (x left:Int):Obj:={ cls:=.type "range_iterator",dict:=none,data:=.fields #[rawInt x,rawInt left,rawInt 1],slots:=#[] }
noncomputable def ItR (src:Src) (o:Obj) (rest:List AV):Prop:=match src with
 | .lst l ys=>∃ i:Nat,o.cls=.type "list_iterator"∧o.data=.fields #[.ref l,.int i 0]∧rest=ys.drop i
 | .tup l ys=>∃ i:Nat,o.cls=.type "tuple_iterator"∧o.data=.fields #[.ref l,.int i 0]∧rest=ys.drop i
 | .rng=>∃ (x:Int) (n:Nat),o=rngO x n∧rest=(List.range n).map fun(k:Nat)=>AV.int (x+(k:Int))
theorem ItR.fields {src:Src} {o:Obj} {rest:List AV} (h:ItR src o rest):∃ vs,o.data=.fields vs:=by
 cases src with
 | lst l ys=>obtain⟨i,_,h,_⟩:=h;exact⟨_,h⟩
 | tup l ys=>obtain⟨i,_,h,_⟩:=h;exact⟨_,h⟩
 | rng=>obtain⟨x,n,rfl,_⟩:=h;exact⟨_,rfl⟩
theorem Own.at (S:k.St ρ H s):Own k s.heap.objs.size:=St_old S
theorem p_iter {src:Src} {xs:List AV} {v:Value} {Q':Value→Shared→Prop} (S:k.St ρ H s) (hi:IterOf src xs v H s.heap) (h:∀ o s',ItR src o xs→(k.withP (s.heap.objs.size,o)).St ρ H s'→Q' (.ref s.heap.objs.size) s') :
  wpAny (model k.c.prog k.c.w) A (pyIter v) Q' E s:=by
 obtain⟨G,S1,V⟩:=id S
 cases src with
 | lst l ys =>
  obtain⟨rfl,rfl,hl⟩:=hi
  obtain⟨-,arr,n,ho,hxs,hz⟩:=S1.hv l _ hl
  refine wpAny_pyIter_list (PySem.IsL.isList (n:=n) ho) (h { cls:=.type "list_iterator",data:=.fields #[.ref l,.int 0 0] } _ ⟨0,rfl,rfl,rfl⟩ (St_protect S _ rfl _))
 | tup l ys =>
  obtain⟨rfl,rfl,hl⟩:=hi
  obtain⟨-,arr,n,ho,hxs,hz⟩:=S1.hv l _ hl
  refine wpAny_pyIter_tuple ⟨_,ho,rfl,n,rfl⟩ (h { cls:=.type "tuple_iterator",data:=.fields #[.ref l,.int 0 0] } _ ⟨0,rfl,rfl,rfl⟩ (St_protect S _ rfl _))
 | rng =>
  obtain⟨r,lo,hi,t,u,w,rfl,hr,hb,rfl⟩:=hi
  refine wpAny_pyIter_range hr (range_small hb) ?_
  rw [range_size]
  exact h (rngO lo ((hi - lo).toNat:Nat)) _ ⟨lo,(hi - lo).toNat,rfl,rfl⟩ (St_protect S _ rfl _)
theorem drop_lget:∀ {ys:List AV} {i:Nat},i < ys.length→ys.drop i=lget ys i::ys.drop (i+1)
 | _::_,0,_=>rfl
 | _::ys,i+1,h=>drop_lget (ys:=ys) (Nat.lt_of_succ_lt_succ h)
theorem p_next {src:Src} {I:Nat} {o:Obj} {rest:List AV} {Q':Option Value→Shared→Prop} (hh:A.handled=none) (own:Own k I) (it:ItR src o rest) (hs:src.ok H) (S:(k.withP (I,o)).St ρ H s)
  (h0:rest=[]→∀ s',k.St ρ H s'→Q' none s') (h:∀ x xs,rest=x::xs→∀ v o' s',VR v x→ItR src o' xs→(k.withP (I,o')).St ρ H s'→Q' (some v) s'):wpAny (model k.c.prog k.c.w) A (pyNext (.ref I)) Q' E s:=by
 obtain⟨fvs,hfd⟩:=it.fields
 have ho:=St_getP S (fun es n q=>by rw [hfd] at q;cases q)
 have hnc:∀ v,o.data≠.cell v:=fun v q=>by rw [hfd] at q;cases q
 obtain⟨G,S1,V⟩:=id S
 have gI:G I=.prot:=(S1.pv (I,o) (.head _)).1
 cases src with
 | lst l ys =>
  obtain⟨i,h1,h2,rfl⟩:=it
  have hl:=S1.hv l _ hs
  obtain⟨gl,arr,n,hol,hxs,hz⟩:=hl
  have hit:s.heap.IsListIter I l i:=⟨o,ho,h1,h2⟩
  have hlen:=hxs.length
  rw [Array.length_toList] at hlen
  by_cases hi:i < ys.length
  ·obtain⟨v,hv,hr⟩:=hxs.get hi
   rw [Array.getElem?_toList] at hv
   have e:=drop_lget hi
   refine wpAny_pyNext_list_item hit (PySem.IsL.isList (n:=n) hol) hv fun h' hit' hsb=>?_
   obtain⟨o',ho',hc',hd'⟩:=hit'
   exact h _ _ e v o' _ hr ⟨i+1,hc',hd',rfl⟩ (St_setP own hnc S (tk:=s.toks) (fun b o hb e=>(hsb.2 b hb).trans e) ho')
  ·have e:ys.drop i=[]:=List.drop_eq_nil_of_le (by lia)
   refine wpAny_pyNext_list_end hh hit (PySem.IsL.isList (n:=n) hol) (Array.getElem?_eq_none (by lia)) fun h' hx=>h0 (by first | exact e | rfl) _ ?_
   exact St_dropP own hnc S (tk:=s.toks) fun b o hb e=>hx b o hb e
 | tup l ys =>
  obtain⟨i,h1,h2,rfl⟩:=it
  have hl:=S1.hv l _ hs
  obtain⟨gl,arr,n,hol,hxs,hz⟩:=hl
  have hit:s.heap.IsTupleIter I l i:=⟨o,ho,h1,h2⟩
  have hlen:=hxs.length
  rw [Array.length_toList] at hlen
  by_cases hi:i < ys.length
  ·obtain⟨v,hv,hr⟩:=hxs.get hi
   rw [Array.getElem?_toList] at hv
   have e:=drop_lget hi
   refine wpAny_pyNext_tuple_item hit ⟨_,hol,rfl,n,rfl⟩ hv fun h' hit' hsb=>?_
   obtain⟨o',ho',hc',hd'⟩:=hit'
   exact h _ _ e v o' _ hr ⟨i+1,hc',hd',rfl⟩ (St_setP own hnc S (tk:=s.toks) (fun b o hb e=>(hsb.2 b hb).trans e) ho')
  ·have e:ys.drop i=[]:=List.drop_eq_nil_of_le (by lia)
   refine wpAny_pyNext_tuple_end hh hit ⟨_,hol,rfl,n,rfl⟩ (Array.getElem?_eq_none (by lia)) fun h' hx=>h0 (by first | exact e | rfl) _ ?_
   exact St_dropP own hnc S (tk:=s.toks) fun b o hb e=>hx b o hb e
 | rng =>
  obtain⟨x,n,rfl,rfl⟩:=it
  cases n with
  | zero =>
   refine wpAny_pyNext_range_end hh ho (by decide) fun h' hx=>h0 (by first | exact e | rfl) _ ?_
   exact St_dropP own hnc S (tk:=s.toks) fun b o hb e=>hx b o hb e
  | succ n =>
   have e:(List.range (n+1)).map (fun(k:Nat)=>AV.int (x+(k:Int)))=.int x::(List.range n).map fun(k:Nat)=>AV.int (x+1+(k:Int)):=by
    rw [List.range_succ_eq_map,List.map_cons,List.map_map]
    congr 1
    ·rw [Int.natCast_zero,Int.add_zero]
    ·refine List.map_congr_left fun k zz=>?_
     show AV.int _=AV.int _
     congr 1
     show x+((k+1:Nat):Int)=_
     lia
   refine wpAny_pyNext_range_item ho (by show(0:Int) < ((n+1:Nat):Int);lia) fun h' hit' hsb=>?_
   have hit2:h'.get? I=some (rngO (x+1) n):=by
    have e:((n+1:Nat):Int) - 1=(n:Int):=by lia
    rw [e] at hit';exact hit'
   exact h _ _ e _ _ _ (.int x _) ⟨x+1,n,rfl,rfl⟩ (St_setP own hnc S (tk:=s.toks+1) (fun b o hb e=>(hsb.2 b hb).trans e) hit2)
end
end Bm
namespace Bm
open PySem PySem.W PyProof.Rows PySem.SeqAt PySem.MeetsSeq
section
variable {k:Kx} {ρ:List AV} {H:AHeap} {s:Shared} {Q X:EQ} {E:Value→Shared→Prop} {A:Around} {K:Frag} {M:Model}
theorem newEnv_nobind {scope:Scope} {globals:Addr} {cl:List (Str×Addr)} {qual:Str} {func:Option Addr} {code:Value} {around:Option Env} {builtins:Addr} {Q:Env→Shared→Prop}
  (h:Q (newEnv scope s.heap.objs.size globals (cellsFrom (s.heap.objs.size+1) scope.names cl) qual func code around builtins) { s with heap:=pushCells (s.heap.push { cls:=.type (if around.isSome then "dict" else "frame"),data:=.dict #[] }) scope.names }) :
  wpAny M A (newFunctionEnv scope globals cl [] qual func code around builtins) Q E s:=by
 cases around with
 | none =>
  simp only [newFunctionEnv,Option.isSome_none,Bool.false_eq_true,if_false] at h ⊢
  refine wpAny_bind (wpAny_alloc ?_)
  refine wpAny_bind (wpAny_layCells _ (fun name kind cells=>by cases hkc:kind == NameKind.cell <;> simp [hkc]) _ _ _ _ ?_)
  rw [show({ s with heap:=s.heap.push { cls:=.type "frame",data:=.dict #[] } }:Shared).heap.objs.size=s.heap.objs.size+1 from Heap.size_push ..]
  exact wpAny_bind (by rw [List.forIn_nil];exact wpAny_pure (wpAny_pure h))
 | some outer =>
  simp only [newFunctionEnv,Option.isSome_some,if_true] at h ⊢
  refine wpAny_bind (wpAny_alloc ?_)
  refine wpAny_bind (wpAny_layCells _ (fun name kind cells=>by cases hkc:kind == NameKind.cell <;> simp [hkc]) _ _ _ _ ?_)
  rw [show({ s with heap:=s.heap.push { cls:=.type "dict",data:=.dict #[] } }:Shared).heap.objs.size=s.heap.objs.size+1 from Heap.size_push ..]
  exact wpAny_bind (by rw [List.forIn_nil];exact wpAny_pure (wpAny_pure h))
theorem pushCells_size:∀ (names:List (Str×NameKind)) (h:Heap),h.objs.size≤(pushCells h names).objs.size
 | [],_=>Nat.le_refl _
 | (_,kind)::r,h=>by
  unfold pushCells
  split
  ·exact Nat.le_trans (by rw [Heap.size_push];lia) (pushCells_size r _)
  ·exact pushCells_size r h
structure Laid (h:Heap) (lo:Nat) (acc:List (Str×Addr)) (names:List (Str×NameKind)) (cs:List (Str×Addr)):Prop where
 old:∀ n,(n,NameKind.cell)∉names→cs.lookup n=acc.lookup n
 new:∀ n,(n,NameKind.cell)∈names→∃ c,cs.lookup n=some c
 at_:∀ n c,(n,c)∈cs→(n,c)∈acc∨(lo≤c∧h.IsCell c none∧(n,NameKind.cell)∈names)
 inj:∀ n n' c,(n,c)∈cs→(n',c)∈cs→lo≤c→n=n'
theorem laid:∀ (names:List (Str×NameKind)) (h:Heap) (acc:List (Str×Addr)),(∀ n c,(n,c)∈acc→c < h.objs.size)→Laid (pushCells h names) h.objs.size acc names (cellsFrom h.objs.size names acc)
 | [],h,acc,ha=>⟨fun zz zz=>rfl,(fun n hn=>nomatch hn),fun n c hm=>.inl hm,fun n n' c hm zz hl=>absurd (ha n c hm) (Nat.not_lt.mpr hl)⟩
 | (x,kind)::r,h,acc,ha=>by
  unfold pushCells cellsFrom
  by_cases hk:(kind == NameKind.cell)=true
  ·rw [if_pos hk,if_pos hk]
   have ek:kind=.cell:=by simpa using hk
   subst ek
   have hsz:(h.push { cls:=.type "cell",data:=.cell none }).objs.size=h.objs.size+1:=Heap.size_push ..
   have L:=laid r (h.push { cls:=.type "cell",data:=.cell none }) ((x,h.objs.size)::acc) (fun n c hm=>by
    rw [hsz]
    rcases List.mem_cons.mp hm with e | hm
    ·cases e;exact Nat.lt_succ_self _
    ·exact Nat.lt_succ_of_lt (ha n c hm))
   rw [hsz] at L
   have hcell:(pushCells (h.push { cls:=.type "cell",data:=.cell none }) r).IsCell h.objs.size none:=⟨_,pushCells_keeps r _ _ _ (Heap.get?_push_size _ rfl),rfl⟩
   refine⟨fun n hn=>?_,fun n hn=>?_,fun n c hm=>?_,fun n n' c hm hm' hl=>?_⟩
   ·have h1:n≠x:=fun e=>hn (by rw [e];exact .head _)
    rw [L.old n fun q=>hn (.tail _ q),List.lookup_cons]
    have:(n == x)=false:=by simpa using h1
    rw [this]
   ·by_cases q:(n,NameKind.cell)∈r
    ·exact L.new n q
    ·have h1:n=x:=by
      rcases List.mem_cons.mp hn with e | e
      ·cases (e);rfl
      ·exact absurd e q
     subst h1
     exact⟨_,by rw [L.old n q,List.lookup_cons];simp;rfl⟩
   ·rcases L.at_ n c hm with q | ⟨q1,q2,q3⟩
    ·rcases List.mem_cons.mp q with e | q
     ·cases e;exact .inr ⟨Nat.le_refl _,hcell,.head _⟩
     ·exact .inl q
    ·exact .inr ⟨by lia,q2,.tail _ q3⟩
   ·by_cases q:h.objs.size+1≤c
    ·exact L.inj n n' c hm hm' q
    ·have hc:c=h.objs.size:=Nat.le_antisymm (Nat.le_of_lt_succ (Nat.lt_of_not_le q)) hl
     have one:∀ m,(m,c)∈cellsFrom (h.objs.size+1) r ((x,h.objs.size)::acc)→m=x:=fun m hm=>by
      rcases L.at_ m c hm with z | ⟨z,_⟩
      ·rcases List.mem_cons.mp z with e | z
       ·cases (e);rfl
       ·have:=ha m c z;rw [hc] at this;exact absurd this (Nat.lt_irrefl _)
      ·exact absurd z q
     rw [one n hm,one n' hm']
  ·rw [if_neg hk,if_neg hk]
   have nk:kind≠.cell:=by simpa using hk
   have L:=laid r h acc ha
   have out:∀ n,(n,NameKind.cell)∈((x,kind)::r)↔(n,NameKind.cell)∈r:=fun n=>⟨fun q=>by
    rcases List.mem_cons.mp q with e | q
    ·cases e;exact absurd rfl nk
    ·exact q,fun q=>.tail _ q⟩
   exact⟨fun n hn=>L.old n fun q=>hn ((out n).mpr q),fun n hn=>L.new n ((out n).mp hn),fun n c hm=>(L.at_ n c hm).imp id fun⟨a,b,c⟩=>⟨a,b,(out n).mpr c⟩,L.inj⟩
noncomputable def varG (G:Nat→Kd) (n:Nat) (h:Heap):Nat→Kd:=fun a=>if n≤a∧(h.get? a).isSome=true then .var else G a
theorem varG_old {G:Nat→Kd} {n:Nat} {h:Heap} {a:Nat} (ha:a < n):varG G n h a=G a:=by unfold varG;rw [if_neg (fun q=>by lia)]
theorem varG_new {G:Nat→Kd} {n:Nat} {h:Heap} {a:Nat} {o:Obj} (ha:n≤a) (ho:h.get? a=some o):varG G n h a=.var:=by unfold varG;rw [if_pos ⟨ha,by rw [ho];rfl⟩]
theorem StC.vars {c:Cx} {G:Nat→Kd} {fr:List Env} {P:List (Addr×Obj)} (S:StC c G fr P H s) {h':Heap} {tk:Nat} (hk:∀ b o,s.heap.get? b=some o→h'.get? b=some o):StC c (varG G s.heap.objs.size h') fr P H { s with heap:=h',toks:=tk } :=
 (S.grow hk).rekind (fun a ha=>varG_old (S.lt a ha)) fun a ha=>by
  unfold varG at ha
  split at ha
  ·rename_i q;exact Option.isSome_iff_exists.mp q.2
  ·obtain⟨o,e⟩:=S.ex a ha;exact⟨o,hk a o e⟩
noncomputable def closL (env:Env):List (Str×NameKind)→List (Str×Addr)→List (Str×Addr)
 | [],acc=>acc
 | (n,k)::r,acc=>closL env r (if k == .free then(match env.cells.lookup n with | some a=>(n,a)::acc | none=>acc) else acc)
theorem closL_lookup {env:Env}:∀ (names:List (Str×NameKind)) (acc:List (Str×Addr)) (x:Str),(∀ n,(n,NameKind.free)∈names→∃ a,env.cells.lookup n=some a) →
  (closL env names acc).lookup x=if (x,NameKind.free)∈names then env.cells.lookup x else acc.lookup x
 | [],acc,x,_=>by simp [closL]
 | (n,k)::r,acc,x,h=>by
  unfold closL
  rw [closL_lookup r _ x fun m hm=>h m (.tail _ hm)]
  by_cases hr:(x,NameKind.free)∈r
  ·rw [if_pos hr,if_pos (List.mem_cons_of_mem _ hr)]
  ·rw [if_neg hr]
   by_cases hk:k=.free
   ·subst hk
    obtain⟨a,ha⟩:=h n (.head _)
    rw [if_pos (by rfl),ha]
    by_cases hx:x=n
    ·subst hx;rw [if_pos (.head _),ha,List.lookup_cons];simp
    ·rw [if_neg (fun q=>by
      rcases List.mem_cons.mp q with e | q
      ·cases e;exact hx rfl
      ·exact hr q),List.lookup_cons]
     have:(x == n)=false:=by simpa using hx
     rw [this]
   ·have hk':(k == NameKind.free)=false:=by simpa using hk
    have nm:¬ (x,NameKind.free)∈(n,k)::r:=fun q=>by
     rcases List.mem_cons.mp q with e | q
     ·cases e;exact hk rfl
     ·exact hr q
    rw [hk',if_neg nm,if_neg Bool.false_ne_true]
set_option tactic.hygienic true in
theorem closL_mem {env:Env}:∀ (names:List (Str×NameKind)) (acc:List (Str×Addr)) (n:Str) (c:Addr),(n,c)∈closL env names acc→(n,c)∈acc∨(env.cells.lookup n=some c∧(n,NameKind.free)∈names)
 | [],acc,n,c,h=>.inl h
 | (m,k)::r,acc,n,c,h=>by
  unfold closL at h
  rcases closL_mem r _ n c h with q | q
  ·split at q
   ·rename_i hk
    have ek:k=.free:=by simpa using hk
    split at q
    ·rename_i a ha
     rcases List.mem_cons.mp q with e | q
     ·cases e;exact .inr ⟨ha,by rw [ek];exact .head _⟩
     ·exact .inl q
    ·exact .inl q
   ·exact .inl q
  ·exact .inr ⟨q.1,.tail _ q.2⟩
theorem closureFor_is {env:Env} {scope:Scope} (h:∀ n,(n,NameKind.free)∈scope.names→∃ a,env.cells.lookup n=some a):closureFor scope env=pure (closL env scope.names []):=by
 unfold closureFor
 have key:∀ (names:List (Str×NameKind)) (acc:List (Str×Addr)),(∀ n,(n,NameKind.free)∈names→∃ a,env.cells.lookup n=some a) →
   (forIn names acc fun x r=>(match x with | (name,kind)=>if (kind == NameKind.free)=true then do let a ← cellOf env name;pure (ForInStep.yield ((name,a)::r)) else pure (ForInStep.yield r):Sem (ForInStep (List (Str×Addr)))))=pure (closL env names acc):=by
  intro names
  induction names with
  | nil=>intro acc _;rw [List.forIn_nil];rfl
  | cons x r ih =>
   intro acc hh
   obtain⟨n,kd⟩:=x
   rw [List.forIn_cons]
   unfold closL
   by_cases hk:(kd == NameKind.free)=true
   ·have ek:kd=.free:=by simpa using hk
    subst ek
    obtain⟨a,ha⟩:=hh n (.head _)
    have hc:cellOf env n=pure a:=by unfold cellOf;rw [ha]
    simp only [hk,if_true,hc,ha,pure_bind]
    exact ih _ fun m hm=>hh m (.tail _ hm)
   ·simp only [hk,if_false,pure_bind]
    exact ih _ fun m hm=>hh m (.tail _ hm)
 have:=key scope.names [] h
 simp only [bind_pure] at this ⊢
 rw [← this]
 try rfl
end
end Bm
namespace Bm
open PySem PySem.W PyProof.Rows PySem.SeqAt PySem.MeetsSeq
section
variable {k:Kx} {ρ:List AV} {H:AHeap} {s:Shared} {Q X:EQ} {E:Value→Shared→Prop} {A:Around} {K:Frag} {M:Model}
noncomputable def cenvOf (scope:Scope) (C:Addr) (cs:List (Str×Addr)) (env:Env):Env :=
 { scope:=relabel scope env,locals:=C,globals:=env.globals,cells:=cs,qual:=env.qual,func:=none,code:=env.code,frame:=env.frame,builtins:=env.builtins }
structure CompOk (env:Env) (nm:List String) (scope:Scope) (t:Str):Prop where
 kind:scope.kind=.function
 tk:(cscope env.scope.names scope.names).lookup t=some .local∨(cscope env.scope.names scope.names).lookup t=some .cell
 ok:cscopeOk env.scope.names nm t scope.names=true
 tt:Str.ofString t.toString=t
theorem CompOk.at_ {env:Env} {nm:List String} {scope:Scope} {t:Str} (O:CompOk env nm scope t) {n:Str} {kd:NameKind} (h:(n,kd)∈scope.names) :
  (kd=.free∧n≠t∧(env.kindOf n=some .cell∨env.kindOf n=some .free))∨(kd=.local∧scope.names.lookup n=some .local∧(n=t∨idx n nm=none))∨(kd=.cell∧n=t)∨(kd=.globalImplicit∧n≠t∧idx n nm=none):=by
 have:=List.all_eq_true.mp O.ok (n,kd) h
 rw [Bool.and_eq_true] at this
 obtain⟨h1,h2⟩:=this
 cases kd <;> simp only [Bool.and_eq_true,Bool.or_eq_true,decide_eq_true_eq] at h2 <;> first | (exact absurd h2 Bool.false_ne_true) | skip
 all_goals first
  | exact .inl ⟨rfl,h2.1.1,h2.1.2⟩
  | exact .inr (.inr (.inl ⟨rfl,h2⟩))
  | exact .inr (.inr (.inr ⟨rfl,h2.1,h2.2⟩))
  | skip
 refine .inr (.inl ⟨rfl,?_,h2.imp id (·.2)⟩)
 simpa using h1
theorem lookup_map {f:Str×NameKind→Str×NameKind} (hf:∀ x,(f x).1=x.1):∀ {l:List (Str×NameKind)} {x:Str} {kd:NameKind},(l.map f).lookup x=some kd→∃ k0,(x,k0)∈l∧(f (x,k0)).2=kd
 | (n,k0)::r,x,kd,h=>by
  rw [List.map_cons] at h
  have e:f (n,k0)=(n,(f (n,k0)).2):=Prod.ext (hf _) rfl
  rw [e,List.lookup_cons] at h
  cases hx:x == n with
  | true =>
   rw [hx] at h
   have:x=n:=by simpa using hx
   subst this
   cases h
   exact⟨k0,.head _,rfl⟩
  | false =>
   rw [hx] at h
   obtain⟨k1,h1,h2⟩:=lookup_map hf h
   exact⟨k1,.tail _ h1,h2⟩
theorem relabel_cscope {scope:Scope} {env:Env} (hf:env.scope.kind=.function):(relabel scope env).names=cscope env.scope.names scope.names:=by
 unfold relabel cscope
 dsimp only
 refine List.map_congr_left fun x zz=>?_
 obtain⟨n,kd⟩:=x
 dsimp only
 have:(env.scope.kind == ScopeKind.function)=true:=by rw [hf];rfl
 rw [this,Bool.and_true]
 rfl
theorem CompOk.kinds {env:Env} {nm:List String} {scope:Scope} {t:Str} (O:CompOk env nm scope t) (hf:env.scope.kind=.function) {C:Addr} {cs:List (Str×Addr)} {x:Str} {kd:NameKind} (h:(cenvOf scope C cs env).kindOf x=some kd) :
  ∃ k0,(x,k0)∈scope.names∧kd=if (k0 == .free&&(env.kindOf x == some .cell))=true then .cell else k0:=by
 have h':(relabel scope env).names.lookup x=some kd:=h
 rw [relabel_cscope hf] at h'
 unfold cscope at h'
 obtain⟨k0,h1,h2⟩:=lookup_map (fun x=>by obtain⟨n,k⟩:=x;dsimp only;split <;> rfl) h'
 refine⟨k0,h1,?_⟩
 dsimp only at h2
 have e:env.kindOf x=env.scope.names.lookup x:=rfl
 rw [e]
 split at h2
 ·rename_i q;rw [if_pos q];exact h2.symm
 ·rename_i q;rw [if_neg q];exact h2.symm
theorem comp_env {G:Nat→Kd} (S:StC k.c G k.fr k.P H s) (V:Vr G k.P k.env k.nm k.ws ρ s.heap) {scope:Scope} {t:Str} (O:CompOk k.env k.nm scope t) {h':Heap} {cs:List (Str×Addr)}
  (eh:h'=pushCells (s.heap.push { cls:=.type "dict",data:=.dict #[] }) scope.names) (ec:cs=cellsFrom (s.heap.objs.size+1) scope.names (closL k.env scope.names [])) :
  ∃ G',StC k.c G' k.fr (storO G k.env s.heap++k.P) H { s with heap:=h' }∧Vr G' (storO G k.env s.heap++k.P) (cenvOf scope s.heap.objs.size cs k.env) (t.toString::k.nm) [t.toString] (.undef::ρ) h':=by
 have keep:∀ b o,s.heap.get? b=some o→h'.get? b=some o:=fun b o e=>by rw [eh];exact pushCells_keeps _ _ _ _ (Heap.get?_push_of_some _ e)
 have S1:=St_putBy S V
 have S2:=S1.vars (tk:=s.toks) keep
 have freeAt:∀ n,(n,NameKind.free)∈scope.names→∃ a,k.env.cells.lookup n=some a:=fun n hn=>by
  rcases O.at_ hn with ⟨_,_,h⟩ | ⟨h,_⟩ | ⟨h,_⟩ | ⟨h,_⟩ <;> first | (cases h;done) | exact V.has n h
 have low:∀ n ca,k.env.cells.lookup n=some ca→ca < s.heap.objs.size:=fun n ca e=>S.lt ca fun q=>by
  rcases V.inP n ca e with z | ⟨o,v,z,_⟩
  ·rw [q] at z;cases z
  ·have:=(S.pv _ z).1;rw [q] at this;cases this
 have psz:(s.heap.push { cls:=.type "dict",data:=.dict #[] }).objs.size=s.heap.objs.size+1:=Heap.size_push ..
 have accLow:∀ n c,(n,c)∈closL k.env scope.names []→c < s.heap.objs.size:=fun n c hm=>by
  rcases closL_mem _ _ n c hm with q | ⟨q,_⟩
  ·cases q
  ·exact low n c q
 have L:=laid scope.names (s.heap.push { cls:=.type "dict",data:=.dict #[] }) (closL k.env scope.names []) (fun n c hm=>by rw [psz];exact Nat.lt_succ_of_lt (accLow n c hm))
 rw [psz,← eh,← ec] at L
 have oldAt:∀ n c,cs.lookup n=some c→c < s.heap.objs.size+1→(k.env.cells.lookup n=some c∧(n,NameKind.free)∈scope.names):=fun n c e hl=>by
  rcases L.at_ n c (lookup_mem e) with q | ⟨q,_⟩
  ·rcases closL_mem _ _ n c q with z | z
   ·cases z
   ·exact z
  ·exact absurd hl (Nat.not_lt.mpr q)
 have lookFree:∀ n,(n,NameKind.free)∈scope.names→cs.lookup n=k.env.cells.lookup n:=fun n hn=>by
  have nc:(n,NameKind.cell)∉scope.names:=fun q=>by
   rcases O.at_ q with ⟨h,_⟩ | ⟨h,_⟩ | ⟨_,h⟩ | ⟨h,_⟩ <;> first | (cases h;done) | skip
   rcases O.at_ hn with ⟨_,h1,_⟩ | ⟨h1,_⟩ | ⟨h1,_⟩ | ⟨h1,_⟩ <;> first | (cases h1;done) | exact h1 h
  rw [L.old n nc,closL_lookup _ _ _ freeAt,if_pos hn]
 have oldG:∀ n ca,k.env.cells.lookup n=some ca→varG (putBy G) s.heap.objs.size h' ca≠.var:=fun n ca e=>by
  rw [varG_old (low n ca e)];exact putBy_noVar G ca
 have dC:h'.get? s.heap.objs.size=some { cls:=.type "dict",data:=.dict #[] }:=by rw [eh];exact pushCells_keeps _ _ _ _ (Heap.get?_push_size _ rfl)
 have cellP:∀ n ca,k.env.cells.lookup n=some ca→∃ o v,(ca,o)∈storO G k.env s.heap++k.P∧o.data=.cell v:=fun n ca e=>by
  rcases V.inP n ca e with z | ⟨o,v,z1,z2⟩
  ·obtain⟨v₀,o,ho,hd⟩:=V.cells n ca e z
   exact⟨o,v₀,List.mem_append_left _ (storO_mem (stor_cell V e z) ho),hd⟩
  ·exact⟨o,v,List.mem_append_right _ z1,z2⟩
 refine⟨_,S2,⟨?_,V.gl,V.bi,varG_new (Nat.le_refl _) dC,⟨fun zz=>none,?_⟩,fun x i e hk n=>?_,fun x hx=>?_,fun x ca e q=>?_,fun x y ca e e'=>?_,?_,fun x ca e=>?_,fun x hx=>?_⟩⟩
 ·exact O.kind
 ·rw [eh];exact(Heap.Ns.new s.heap (.type "dict")).keeps (pushCells_keeps _ _)
 ·have e1:idx x (t.toString::k.nm)=if Str.ofString t.toString=x then some 0 else(idx x k.nm).map (·+ 1):=rfl
  rw [e1,O.tt] at e
  by_cases htx:t=x
  ·rw [if_pos htx] at e;cases e;exact absurd rfl n
  ·rw [if_neg htx] at e
   cases hj:idx x k.nm with
   | none=>rw [hj] at e;cases e
   | some j =>
    rw [hj] at e
    cases e
    have n':lget ρ j≠.undef:=n
    cases hkd:(cenvOf scope s.heap.objs.size cs k.env).kindOf x with
    | none=>rw [hkd] at hk;cases hk
    | some kd =>
     rw [hkd] at hk
     obtain⟨k0,m0,rfl⟩:=O.kinds V.fn hkd
     have hfree:k0=.free∧(k.env.kindOf x=some .cell∨k.env.kindOf x=some .free):=by
      rcases O.at_ m0 with ⟨h1,_,h2⟩ | ⟨_,_,h | h⟩ | ⟨_,h⟩ | ⟨_,_,h⟩
      ·exact⟨h1,h2⟩
      ·exact absurd h.symm htx
      ·rw [hj] at h;cases h
      ·exact absurd h.symm htx
      ·rw [hj] at h;cases h
     obtain⟨rfl,hkk⟩:=hfree
     have hok:okKind (k.env.kindOf x)=true:=by rcases hkk with h | h <;> rw [h] <;> rfl
     obtain⟨v,hr,hv⟩:=V.reads x j hj hok n'
     refine⟨v,.inr ?_,hv⟩
     have hkd':(cenvOf scope s.heap.objs.size cs k.env).kindOf x=some .cell∨(cenvOf scope s.heap.objs.size cs k.env).kindOf x=some .free:=by
      rw [hkd];split
      ·exact .inl rfl
      ·exact .inr rfl
     rcases hr with ⟨h1,_⟩ | ⟨ca,_,h2,h3⟩
     ·rcases hkk with h | h <;> rw [h1] at h <;> cases h
     ·refine⟨ca,hkd',by show cs.lookup x=_;rw [lookFree x m0,h2],.inr ?_⟩
      rcases h3 with ⟨h4,o,h5,h6⟩ | ⟨o,h5,h6⟩
      ·exact⟨o,List.mem_append_left _ (storO_mem (stor_cell V h2 h4) h5),h6⟩
      ·exact⟨o,List.mem_append_right _ h5,h6⟩
 ·have hx':x=t.toString:=by simpa using hx
  subst hx'
  rw [O.tt]
  have e2:(cenvOf scope s.heap.objs.size cs k.env).kindOf t=(cscope k.env.scope.names scope.names).lookup t:=by
   show(relabel scope k.env).names.lookup t=_
   rw [relabel_cscope V.fn]
  rcases O.tk with h | h
  ·exact .inl (e2.trans h)
  ·refine .inr ⟨e2.trans h,?_⟩
   obtain⟨k0,m0,e3⟩:=O.kinds V.fn (e2.trans h)
   have hc:k0=.cell:=by
    rcases O.at_ m0 with ⟨_,h1,_⟩ | ⟨h1,_⟩ | ⟨h1,_⟩ | ⟨_,h1,_⟩
    ·exact absurd rfl h1
    ·rw [h1] at e3;cases e3
    ·exact h1
    ·exact absurd rfl h1
   subst hc
   obtain⟨c,hc⟩:=L.new t m0
   refine⟨c,hc,?_⟩
   rcases Nat.lt_or_ge c (s.heap.objs.size+1) with hl | hl
   ·have:=(oldAt t c hc hl).2
    rcases O.at_ this with ⟨_,h1,_⟩ | ⟨h1,_⟩ | ⟨h1,_⟩ | ⟨h1,_⟩ <;> first | (cases h1;done) | exact absurd rfl h1
   ·rcases L.at_ t c (lookup_mem hc) with q | ⟨_,⟨o,ho,_⟩,_⟩
    ·have:=accLow t c q;exact absurd this (Nat.not_lt.mpr (Nat.le_of_succ_le hl))
    ·exact varG_new (Nat.le_of_succ_le hl) ho
 ·rcases L.at_ x ca (lookup_mem e) with z | ⟨z1,z2,_⟩
  ·have:=accLow x ca z
   exact absurd q (by rw [varG_old this];exact putBy_noVar G ca)
  ·exact⟨_,z2⟩
 ·rcases Nat.lt_or_ge ca (s.heap.objs.size+1) with hl | hl
  ·exact V.inj x y ca (oldAt x ca e hl).1 (oldAt y ca e' hl).1
  ·exact L.inj x y ca (lookup_mem e) (lookup_mem e') hl
 ·show(AV.undef::ρ).length=(t.toString::k.nm).length
  rw [List.length_cons,List.length_cons,V.len]
 ·rcases L.at_ x ca (lookup_mem e) with z | ⟨z1,⟨o,ho,_⟩,_⟩
  ·rcases closL_mem _ _ x ca z with w | ⟨w,_⟩
   ·cases w
   ·exact .inr (cellP x ca w)
  ·exact .inl (varG_new (Nat.le_of_succ_le z1) ho)
 ·have:∃ k0,(x,k0)∈scope.names∧(k0=.free∨k0=.cell):=by
   rcases hx with h | h <;> obtain⟨k0,m0,e3⟩:=O.kinds V.fn h <;> refine⟨k0,m0,?_⟩ <;> split at e3
   ·rename_i q;simp at q;exact .inl q.1
   ·exact .inr e3.symm
   ·cases e3
   ·exact .inl e3.symm
  obtain⟨k0,m0,h | h⟩:=this
  ·subst h
   obtain⟨a,ha⟩:=freeAt x m0
   exact⟨a,(lookFree x m0).trans ha⟩
  ·subst h;exact L.new x m0
end
end Bm
namespace Bm
open PySem PySem.W PyProof.Rows PySem.SeqAt PySem.MeetsSeq
section
variable {k:Kx} {ρ:List AV} {H:AHeap} {s:Shared} {Q X:EQ} {E:Value→Shared→Prop} {A:Around} {K:Frag} {M:Model}
theorem St_perm {P P':List (Addr×Obj)} (S:(k.onP P).St ρ H s) (h:∀ p,p∈P'↔p∈P):(k.onP P').St ρ H s :=
 St_lessP (k:=k.onP P) S (fun p hp=>(h p).mp hp) fun c o v hm zz=>(h _).mpr hm
theorem Own.more {k:Kx} {I D:Nat} {o:Obj} (h:Own k I) (hn:D≠I):Own (k.withP (D,o)) I :=
 ⟨fun p hp=>by rcases List.mem_cons.mp hp with rfl | hp;exact hn;exact h.1 p hp,h.2⟩
theorem p_assign {x:Str} {px:Pos} {i:Nat} {v:Value} {av:AV} {Q:Unit→Shared→Prop} (hi:idx x k.nm=some i) (hx:∃ n∈k.ws,Str.ofString n=x) (hv:VR v av) (S:k.St ρ H s) (h:∀ s',k.St (lset ρ i av) H s'→Q () s') :
  wpAny (model k.c.prog k.c.w) A (assign (.Name x px) k.env v) Q E s:=by
 show wpAny _ A (do standAt px;bindName k.env x v) Q E s
 exact wpAny_bind (wpAny_standAt (p_store hi hx hv S h))
theorem comp_loop {kb:Kx} (hh:kb.A.handled=none) {t:Str} {tp:Pos} {elt iter:Expr} {ifs:List Expr} {scope:Scope} {pos:Pos} {src:Src} {I D:Nat} (oI:Own kb I) (oD:Own kb D) (hID:I≠D)
  {t':String} {nm0:List String} (hnm:kb.nm=t'::nm0) (hws:kb.ws=[t']) (htt:Str.ofString t'=t) {ρ:List AV} {cond:AV→AHeap→(Bool→AHeap→Prop)→Prop} {elt':AV→AHeap→EQ→Prop} {K':List AV→AHeap→Prop} {R:Result→Shared→Prop}
  (hc:∀ P' v H s Qb,(kb.onP P').St (v::ρ) H s→cond v H Qb→wpAny (model kb.c.prog kb.c.w) kb.A (forIn ifs true fun c r=>if r=true then do let ok ← isTrue c kb.env (eval c kb.env);pure (ForInStep.yield ok) else pure (ForInStep.yield r)) ((kb.onP P').RB (v::ρ) Qb) (fun zz zz=>False) s)
  (he:∀ P' v H s Q,(kb.onP P').St (v::ρ) H s→elt' v H Q→wpAny (model kb.c.prog kb.c.w) kb.A (eval elt kb.env) ((kb.onP P').RE (v::ρ) Q) (fun zz zz=>False) s)
  (hR:∀ y arr n ws H' s',(kb.withP (D,listObj arr n)).St (y::ρ) H' s'→L2 VR arr.toList ws→arr.size≤lim→K' ws H'→R (.ok .next) s')
  {o:Obj} {arr:Array Value} {n:Nat} {rest acc:List AV} {y:AV} {H:AHeap} {s:Shared} (it:ItR src o rest) (hok:src.ok H) (hx:L2 VR arr.toList acc) (hz:arr.size+rest.length≤lim) (S:((kb.withP (D,listObj arr n)).withP (I,o)).St (y::ρ) H s)
  (h:compIfL src cond elt' rest acc H K') :
  codeAny (model kb.c.prog kb.c.w) kb.A (.compLoop (.ListComp elt [⟨.Name t tp,iter,ifs,0⟩] scope pos) 0 (.ref I) (.ref D) kb.env) R s:=by
 refine codeAny_compLoop_tests (fun m s=>∃ (o:Obj) (arr:Array Value) (n:Nat) (rest acc:List AV) (y:AV) (H:AHeap),m=rest.length+1∧ItR src o rest∧src.ok H∧L2 VR arr.toList acc∧arr.size+rest.length≤lim ∧
  ((kb.withP (D,listObj arr n)).withP (I,o)).St (y::ρ) H s∧compIfL src cond elt' rest acc H K') ?_ (rest.length+1) ⟨o,arr,n,rest,acc,y,H,rfl,it,hok,hx,hz,S,h⟩
 clear hok hx hz S h it
 rintro m s ⟨o,arr,n,rest,acc,y,H,rfl,it,hok,hx,hz,S,h⟩
 refine p_next (k:=kb.withP (D,listObj arr n)) hh (oI.more (fun e=>hID e.symm)) it hok S (fun e s' S'=>?_) (fun x xs e v o' s' hv it' S'=>?_)
 ·subst e
  exact hR y arr n acc H s' S' hx (by have:([]:List AV).length=0:=rfl;omega) h
 ·subst e
  have hi:idx t kb.nm=some 0:=by rw [hnm];show(if Str.ofString t'=t then some 0 else _)=_;rw [if_pos htt]
  refine p_assign (k:=(kb.withP (D,listObj arr n)).withP (I,o')) hi ⟨t',by show t'∈kb.ws;rw [hws];exact .head _,htt⟩ hv S' fun s2 S2=>?_
  have S2':(kb.onP ((I,o')::(D,listObj arr n)::kb.P)).St (x::ρ) H s2:=S2
  unfold compIfL at h
  refine wpAny_mono (hc _ _ _ _ _ S2' h) (fun ok s3 h3=>?_) fun zz zz f=>f.elim
  obtain⟨H3,S3,h3⟩:=h3
  have hlen:(x::xs).length=xs.length+1:=rfl
  cases ok with
  | false =>
   rw [if_neg Bool.false_ne_true]
   exact⟨xs.length+1,by omega,o',arr,n,xs,acc,x,H3,rfl,it',h3.1,hx,by omega,S3,h3.2⟩
  | true =>
   rw [if_pos rfl]
   refine wpAny_mono (he _ _ _ _ _ S3 h3) (fun w s4 h4=>?_) fun zz zz f=>f.elim
   obtain⟨aw,H4,hw,S4,hok4,h4⟩:=h4
   have S4':((kb.withP (I,o')).withP (D,listObj arr n)).St (x::ρ) H4 s4:=St_perm (k:=kb) (P:=(I,o')::(D,listObj arr n)::kb.P) (P':=(D,listObj arr n)::(I,o')::kb.P) S4 fun p=>by
    simp only [List.mem_cons];exact or_left_comm
   have hD:s4.heap.PlainList D arr:=⟨n,St_getP S4' (fun es n q=>by cases q)⟩
   have hlim:arr.size≤lim:=by omega
   refine wpAny_list_append_plain hD (fun h' hp hs=>?_) (lim_line hlim)
   obtain⟨n',hp⟩:=hp
   have S5:=St_setP (oD.more hID) (fun v q=>by cases q) S4' (tk:=s4.toks) (fun b o hb e=>(hs.2 b hb).trans e) hp
   refine⟨xs.length+1,by omega,o',arr.push w,n',xs,acc++[aw],x,H4,rfl,it',hok4,by rw [Array.toList_push];exact hx.append (.cons hw .nil),by rw [Array.size_push];omega,?_,h4⟩
   exact St_perm (k:=kb) (P:=(D,listObj (arr.push w) n')::(I,o')::kb.P) (P':=(I,o')::(D,listObj (arr.push w) n')::kb.P) S5 fun p=>by
    simp only [List.mem_cons];exact or_left_comm
theorem iter_self {src:Src} {I:Nat} {o:Obj} {rest:List AV} {Q':Value→Shared→Prop} (it:ItR src o rest) (ho:s.heap.get? I=some o) (h:Q' (.ref I) s):wpAny (model k.c.prog k.c.w) A (pyIter (.ref I)) Q' E s:=by
 cases src with
 | lst l ys=>obtain⟨i,h1,h2,_⟩:=it;exact wpAny_pyIter_listiter ⟨o,ho,h1,h2⟩ h
 | tup l ys=>obtain⟨i,h1,h2,_⟩:=it;exact wpAny_pyIter_tupleiter ⟨o,ho,h1,h2⟩ h
 | rng=>obtain⟨x,n,rfl,_⟩:=it;exact wpAny_pyIter_rangeiter ho h
noncomputable def Kx.inComp (k:Kx) (scope:Scope) (t:Str) (C:Addr) (cs:List (Str×Addr)) (P:List (Addr×Obj)):Kx :=
 { k with env:=cenvOf scope C cs k.env,nm:=t.toString::k.nm,ws:=[t.toString],P:=P }
theorem ns_ofP {C:Nat} {oC:Obj} {h₀ h:Heap} {m:Str→Option Value} (hn:h₀.Ns C m) (ho:h₀.get? C=some oC) (hp:PR k.fr h (C,oC)):h.Ns C m:=by
 obtain⟨o,es,ep,ho',hd,r⟩:=hn
 rw [ho] at ho';cases ho'
 rcases hp with z | ⟨_,sl,z⟩
 ·exact⟨_,es,ep,z,hd,r⟩
 ·exact⟨_,es,ep,z,hd,r⟩
theorem comp_fin {scope:Scope} {t:Str} {C D:Nat} {cs:List (Str×Addr)} {G3:Nat→Kd} {s3 s':Shared} (V3:Vr G3 k.P k.env k.nm k.ws ρ s3.heap) (hP:∀ p∈k.P,G3 p.1=.prot) (eC:s3.heap.objs.size=C) {arr:Array Value} {n:Nat} {ws:List AV} {ρ':List AV} {H':AHeap}
  (Sf:((k.inComp scope t C cs (storO G3 k.env s3.heap++k.P)).withP (D,listObj arr n)).St ρ' H' s') (oD:Own (k.inComp scope t C cs (storO G3 k.env s3.heap++k.P)) D) (hx:L2 VR arr.toList ws) (hz:arr.size≤lim) :
  ∃ m oC,s'.heap.Ns C m∧s'.heap.get? C=some oC∧(∀ v,oC.data≠.cell v)∧H' D=none∧(k.withP (C,oC)).St ρ (upd H' D (.list ws)) s':=by
 have hget:=St_getP Sf (fun es n q=>by cases q)
 obtain⟨hDn,Sg⟩:=St_release (k:=k.inComp scope t C cs (storO G3 k.env s3.heap++k.P)) (o:=listObj arr n) Sf (fun v q=>by cases q) oD.1 (h':=s'.heap) (tk:=s'.toks) (ao:=.list ws) (Heap.SameBut.refl ..) (fun G=>⟨arr,n,hget,hx,hz⟩) oD.2
 obtain⟨G5,SC5,V5⟩:=Sg
 have SC6:=St_putBy SC5 V5
 obtain⟨m,hm⟩:=V5.ns
 obtain⟨oC,es,ep,hoC,hdC,rC⟩:=id hm
 have inC:(C,oC)∈storO G5 (cenvOf scope C cs k.env) s'.heap:=storO_mem (k:=k.inComp scope t C cs (storO G3 k.env s3.heap++k.P)) (.head _) hoC
 have SC7:StC k.c (putBy G5) k.fr (storO G3 k.env s3.heap++((C,oC)::k.P)) (upd H' D (.list ws)) s':=by
  refine SC6.lessP fun p hp=>?_
  rcases List.mem_append.mp hp with hp | hp
  ·exact List.mem_append_right _ (List.mem_append_left _ hp)
  ·rcases List.mem_cons.mp hp with rfl | hp
   ·exact List.mem_append_left _ inC
   ·exact List.mem_append_right _ (List.mem_append_right _ hp)
 refine⟨m,oC,hm,hoC,(fun v q=>by rw [hdC] at q;cases q),hDn,.of (St_takeUp' (k:=k) (s:=s3) (P':=(C,oC)::k.P) V3 (putBy_noVar G5) SC7 (fun p hp q=>?_) fun zz zz zz h zz=>.tail _ h)⟩
 rcases List.mem_cons.mp hp with rfl | hp
 ·obtain⟨o',e⟩:=stor_obj V3 _ q
  have:=Heap.lt_size e;rw [eC] at this;exact Nat.lt_irrefl _ this
 ·have:=stor_var V3 _ q
  rw [hP p hp] at this;cases this
set_option maxHeartbeats 2000000 in
theorem p_comp (S0:k.St ρ H s) {scope:Scope} {t:Str} {tp:Pos} {elt iter:Expr} {ifs:List Expr} {pos:Pos} (CO:CompOk k.env k.nm scope t) (use:Option (Value→Sem Unit)) {Q':Value→Shared→Prop}
  {cond:AV→AHeap→(Bool→AHeap→Prop)→Prop} {elt':AV→AHeap→EQ→Prop} {K':List AV→AHeap→Prop} {tgt:Expr} {g:Comprehension} (hg:g=⟨.Name t tp,iter,ifs,0⟩)
  (hfold:∀ x,foldedSetIterable iter k.env x=pure x)
  (hfirst:wpAny (model k.c.prog k.c.w) k.A (eval iter k.env) (fun x s1=>∃ src xs H1,k.St ρ H1 s1∧IterOf src xs x H1 s1.heap∧src.ok H1∧xs.length≤lim∧k.A.handled=none∧compIfL src cond elt' xs [] H1 K') E s)
  (hc:∀ C cs P' v H s Qb,(k.inComp scope t C cs P').St (v::ρ) H s→(cenvOf scope C cs k.env).scope.names=cscope k.env.scope.names scope.names→cond v H Qb→wpAny (model k.c.prog k.c.w) k.A (forIn ifs true fun c r=>if r=true then do let ok ← isTrue c (cenvOf scope C cs k.env) (eval c (cenvOf scope C cs k.env));pure (ForInStep.yield ok) else pure (ForInStep.yield r)) ((k.inComp scope t C cs P').RB (v::ρ) Qb) (fun zz zz=>False) s)
  (he:∀ C cs P' v H s Q,(k.inComp scope t C cs P').St (v::ρ) H s→(cenvOf scope C cs k.env).scope.names=cscope k.env.scope.names scope.names→elt' v H Q→wpAny (model k.c.prog k.c.w) k.A (eval elt (cenvOf scope C cs k.env)) ((k.inComp scope t C cs P').RE (v::ρ) Q) (fun zz zz=>False) s)
  (hfin:match use with
   | none=>∀ D H1 ws s',K' ws H1→H1 D=none→k.St ρ (upd H1 D (.list ws)) s'→Q' (.ref D) s'
   | some u=>∀ D H1 ws s' C oC,K' ws H1→H1 D=none→(k.withP (C,oC)).St ρ (upd H1 D (.list ws)) s'→wpAny (model k.c.prog k.c.w) k.A (u (.ref D)) (fun zz s''=>∃ ρ',(k.withP (C,oC)).St ρ' (upd H1 D (.list ws)) s''∧∀ s3,k.St ρ' (upd H1 D (.list ws)) s3→Q' .none s3) E s') {pos2:Pos} :
  wpAny (model k.c.prog k.c.w) k.A (comprehension (.ListComp elt [g] scope pos) scope k.env pos2 (newList []) false (eval iter k.env) use) Q' E s:=by
 subst hg
 have hnames:∀ x∈scope.names,x.2=.local→scope.names.lookup x.1=some .local:=fun x hx hl=>by
  obtain⟨n,kd⟩:=x
  cases hl
  rcases CO.at_ hx with ⟨h,_⟩ | ⟨_,h,_⟩ | ⟨h,_⟩ | ⟨h,_⟩ <;> first | (cases h;done) | exact h
 refine wpAny_comprehension_free (cl:=closL k.env scope.names []) (g:=⟨.Name t tp,iter,ifs,0⟩) (gs:=[]) rfl hfold ?_ CO.kind hnames ?_
 ·obtain⟨G0,_,V0⟩:=S0
  refine closureFor_is fun n hn=>?_
  rcases CO.at_ hn with ⟨_,_,h⟩ | ⟨h,_⟩ | ⟨h,_⟩ | ⟨h,_⟩ <;> first | (cases h;done) | exact V0.has n h
 ·refine wpAny_mono hfirst (fun x s1 h1=>?_) fun zz zz e=>e
  obtain⟨src,xs,H1,S1,hi,hok,hlen,hh,hv⟩:=h1
  refine p_iter S1 hi fun o s2 it S2=>?_
  have oI:=Own.at S1
  refine wpAny_newObj_type ?_ (by size_fits)
  have oD:=Own.at S2
  have S3:=St_protect S2 (listObj #[] 0) rfl s2.toks
  have oC:=Own.at S3
  have hID:s1.heap.objs.size≠s2.heap.objs.size:=oD.1 _ (.head _)
  generalize eI:s1.heap.objs.size=I at *
  generalize eD:s2.heap.objs.size=D at *
  obtain⟨G3,SC3,V3⟩:=S3
  have V3':Vr G3 k.P k.env k.nm k.ws ρ (s2.heap.push (listObj #[] 0)):=V3.subP fun c o' v hm hd=>by
   rcases List.mem_cons.mp hm with q | hm
   ·cases q;cases hd
   ·rcases List.mem_cons.mp hm with q | hm
    ·cases q;obtain⟨fvs,hf⟩:=it.fields;rw [hf] at hd;cases hd
    ·exact hm
  refine newEnv_nobind ?_
  obtain⟨G4,SC4,V4⟩:=comp_env (k:=(k.withP (I,o)).withP (D,listObj #[] 0)) SC3 V3 CO rfl rfl
  dsimp only
  generalize eH4:pushCells ((s2.heap.push (listObj #[] 0)).push { cls:=.type (if (some k.env).isSome=true then "dict" else "frame"),data:=.dict #[] }) scope.names=h4
  generalize eC:(s2.heap.push (listObj #[] 0)).objs.size=C at *
  generalize ecs:cellsFrom (C+1) scope.names (closL k.env scope.names [])=cs
  have eH4':pushCells ((s2.heap.push (listObj #[] 0)).push { cls:=.type "dict",data:=.dict #[] }) scope.names=h4:=eH4
  have SC4':StC k.c G4 k.fr (storO G3 k.env (s2.heap.push (listObj #[] 0))++((D,listObj #[] 0)::(I,o)::k.P)) H1 { s2 with heap:=h4 }:=by rw [← eH4'];exact SC4
  have V4':Vr G4 (storO G3 k.env (s2.heap.push (listObj #[] 0))++((D,listObj #[] 0)::(I,o)::k.P)) (cenvOf scope C cs k.env) (t.toString::k.nm) [t.toString] (.undef::ρ) h4:=by
   rw [← eH4',← ecs];exact V4
  clear SC4 V4
  generalize es3:({ s2 with heap:=s2.heap.push (listObj #[] 0) }:Shared)=s3 at *
  have es3h:s2.heap.push (listObj #[] 0)=s3.heap:=by rw [← es3]
  rw [es3h] at SC4' V4' V3' eC
  have S4:(((k.inComp scope t C cs (storO G3 k.env s3.heap++k.P)).withP (D,listObj #[] 0)).withP (I,o)).St (.undef::ρ) H1 { s2 with heap:=h4 }:=by
   refine St_perm (k:=k.inComp scope t C cs (storO G3 k.env s3.heap++k.P)) (P:=storO G3 k.env s3.heap++((D,listObj #[] 0)::(I,o)::k.P)) (P':=(I,o)::(D,listObj #[] 0)::(storO G3 k.env s3.heap++k.P)) ⟨G4,SC4',V4'⟩ fun p=>?_
   simp only [List.mem_cons,List.mem_append]
   constructor
   ·rintro (h | h | h | h) <;> simp [h]
   ·rintro (h | h | h | h) <;> simp [h]
  have fromSt:∀ p∈storO G3 k.env s3.heap,G3 p.1=.var:=fun p hp=>stor_var V3' _ (storO_at (k:=k) hp).1
  have gD:G3 D=.prot:=(SC3.pv (D,listObj #[] 0) (.head _)).1
  have gI:G3 I=.prot:=(SC3.pv (I,o) (.tail _ (.head _))).1
  have gP:∀ p∈k.P,G3 p.1=.prot:=fun p hp=>(SC3.pv p (.tail _ (.tail _ hp))).1
  have oIb:Own (k.inComp scope t C cs (storO G3 k.env s3.heap++k.P)) I:=⟨fun p hp=>by
   rcases List.mem_append.mp hp with hp | hp
   ·intro e;have:=fromSt p hp;rw [e,gI] at this;cases this
   ·exact oI.1 p hp,oI.2⟩
  have oDb:Own (k.inComp scope t C cs (storO G3 k.env s3.heap++k.P)) D:=⟨fun p hp=>by
   rcases List.mem_append.mp hp with hp | hp
   ·intro e;have:=fromSt p hp;rw [e,gD] at this;cases this
   ·exact oD.1 p (.tail _ hp),oD.2⟩
  have oCk:Own k C:=⟨fun p hp=>oC.1 p (.tail _ (.tail _ hp)),oC.2⟩
  have hnames2:(cenvOf scope C cs k.env).scope.names=cscope k.env.scope.names scope.names:=by
   obtain⟨G0,_,V0⟩:=S0
   exact relabel_cscope V0.fn
  have fin:∀ y arr n ws H' s',((k.inComp scope t C cs (storO G3 k.env s3.heap++k.P)).withP (D,listObj arr n)).St (y::ρ) H' s'→L2 VR arr.toList ws→arr.size≤lim→K' ws H'→compPost (model k.c.prog k.c.w) k.A E use Q' (.ref D) C (.ok .next) s':=by
   intro y arr n ws H' s' Sf hx hz hk
   obtain⟨m,oC',hm,hoC,ncC,hDn,S8⟩:=comp_fin V3' gP eC Sf oDb hx hz
   cases use with
   | none=>exact⟨m,hm,fun h' hs=>hfin D H' ws _ hk hDn (St_dropP oCk ncC S8 (tk:=s'.toks) fun b o hb e=>(hs.2 b hb).trans e)⟩
   | some u =>
    refine wpAny_mono (hfin D H' ws s' C oC' hk hDn S8) (fun zz s'' h''=>?_) fun zz zz e=>e
    obtain⟨ρ',S9,hq⟩:=h''
    refine⟨m,?_,fun h' hs=>hq _ (St_dropP oCk ncC S9 (tk:=s''.toks) fun b o hb e=>(hs.2 b hb).trans e)⟩
    obtain⟨G9,SC9,_⟩:=S9
    exact ns_ofP (k:=k) hm hoC (SC9.pv (C,oC') (.head _)).2
  have loop:codeAny (model k.c.prog k.c.w) k.A (.compLoop (.ListComp elt [⟨.Name t tp,iter,ifs,0⟩] scope pos) 0 (.ref I) (.ref D) (cenvOf scope C cs k.env)) (compPost (model k.c.prog k.c.w) k.A E use Q' (.ref D) C) { s2 with heap:=h4 } :=
   comp_loop (kb:=k.inComp scope t C cs (storO G3 k.env s3.heap++k.P)) hh oIb oDb hID rfl rfl CO.tt (fun P' v H s Qb St hq=>hc C cs P' v H s Qb St hnames2 hq) (fun P' v H s Q St hq=>he C cs P' v H s Q St hnames2 hq) fin it hok .nil (by show 0+xs.length≤lim;omega) S4 hv
  have getI:h4.get? I=some o:=St_getP S4 fun es n q=>by obtain⟨fvs,hf⟩:=it.fields;rw [hf] at q;cases q
  exact codeAny_compStart_list loop (iter_self (k:=k) it getI loop)
end
end Bm
namespace Bm
open PySem PySem.W PyProof.Rows PySem.SeqAt PySem.MeetsSeq
noncomputable def SE (K:Frag) (sc:List (Str×NameKind)) (nm:List String) (e:Expr) (ir:IE):Prop:=∀ (k:Kx),k.Ok K→k.env.scope.names=sc→k.nm=nm→∀ (ρ:List AV) (H:AHeap) (s:Shared) (Q X:EQ),
 k.St ρ H s→vE k.T k.hd k.call ir ρ H Q X→wpAny (model k.c.prog k.c.w) k.A (eval e k.env) (k.RE ρ Q) (k.XE ρ X) s
noncomputable def SB (K:Frag) (sc:List (Str×NameKind)) (nm:List String) (e:Expr) (ir:IE):Prop:=∀ (k:Kx),k.Ok K→k.env.scope.names=sc→k.nm=nm→∀ (ρ:List AV) (H:AHeap) (s:Shared) (Q X:EQ) (Qb:Bool→AHeap→Prop),
 k.St ρ H s→(∀ v H,Q v H→Bm.truthy v H fun b=>Qb b H)→vE k.T k.hd k.call ir ρ H Q X→wpAny (model k.c.prog k.c.w) k.A (isTrue e k.env (eval e k.env)) (k.RB ρ Qb) (k.XE ρ X) s
inductive Kx.RL (k:Kx) (ρ:List AV) (n:Nat) (Q:List AV→AHeap→Prop) (vs:List Value) (s':Shared):Prop
 | mk (avs:List AV) (H':AHeap) (hn:vs.length=n) (hv:L2 VR vs avs) (S:k.St ρ H' s') (q:Q avs H')
noncomputable def SL (K:Frag) (sc:List (Str×NameKind)) (nm:List String) (es:List Expr) (xs:IEs):Prop:=∀ (k:Kx),k.Ok K→k.env.scope.names=sc→k.nm=nm→∀ (pos:Pos) (ρ:List AV) (H:AHeap) (s:Shared) (Q:List AV→AHeap→Prop) (X:EQ),
 k.St ρ H s→vEs k.T k.hd k.call xs ρ H Q X→wpAny (model k.c.prog k.c.w) k.A (spliced (backTo pos (starEach es k.env))) (k.RL ρ es.length Q) (k.XE ρ X) s
inductive Kx.RT (k:Kx) (ρ:List AV) (Q:Src→List AV→AHeap→Prop) (v:Value) (s':Shared):Prop
 | mk (src:Src) (xs:List AV) (H':AHeap) (S:k.St ρ H' s') (i:IterOf src xs v H' s'.heap) (o:src.ok H') (z:xs.length≤lim) (q:Q src xs H')
noncomputable def ST (K:Frag) (sc:List (Str×NameKind)) (nm:List String) (e:Expr) (it:IT):Prop:=∀ (k:Kx),k.Ok K→k.env.scope.names=sc→k.nm=nm→∀ (ρ:List AV) (H:AHeap) (s:Shared) (Q:Src→List AV→AHeap→Prop) (X:EQ),
 k.St ρ H s→vT k.T k.hd k.call it ρ H Q X→wpAny (model k.c.prog k.c.w) k.A (eval e k.env) (k.RT ρ Q) (k.XE ρ X) s
section
variable {k:Kx} {ρ:List AV} {H:AHeap} {s:Shared} {Q X:EQ} {E:Value→Shared→Prop} {A:Around} {K:Frag} {M:Model} {sc:List (Str×NameKind)} {nm:List String}
theorem re_then {α:Type} {m:Sem Value} {f:Value→Sem α} {Q':α→Shared→Prop} (h:wpAny M A m (k.RE ρ Q) E s) (hf:∀ v av H' s',VR v av→k.St ρ H' s'→Q av H'→wpAny M A (f v) Q' E s'):wpAny M A (m >>= f) Q' E s :=
 wpAny_bind (wpAny_mono h (fun v s' ⟨av,H',hv,S',hq⟩=>hf v av H' s' hv S' hq) fun zz zz e=>e)
theorem re_held {α:Type} {vs:List Value} {m:Sem Value} {f:Value→Sem α} {Q':α→Shared→Prop} (h:wpAny M A m (k.RE ρ Q) E s) (hf:∀ v av H' s',VR v av→k.St ρ H' s'→Q av H'→wpAny M A (f v) Q' E s'):wpAny M A (holding vs m >>= f) Q' E s :=
 re_then (wpAny_holding h) hf
theorem re_on {m:Sem Value} {Q':Value→Shared→Prop} (h:wpAny M A m (k.RE ρ Q) E s) (hf:∀ v av H' s',VR v av→k.St ρ H' s'→Q av H'→Q' v s'):wpAny M A m Q' E s :=
 wpAny_mono h (fun v s' ⟨av,H',hv,S',hq⟩=>hf v av H' s' hv S' hq) fun zz zz e=>e
theorem p_bin {op:Operator} {op':BOp} (hop:bopOf op=some op') {v w:Value} {x y:AV} (hv:VR v x) (hw:VR w y) (S:k.St ρ H s) (h:vBin op' x y H Q):wpAny (model k.c.prog k.c.w) A (binaryOp op v w) (k.RE ρ Q) E s:=by
 cases h with
 | int q=>exact hv.e2 hw fun t u=>p_bin_int hop S (.int q)
 | add o h1 h2 z q =>
  rw [o] at hop
  cases op <;> first | (cases hop;done) | exact hv.eRef (hw.eRef (p_add_list S h1 h2 z q))
 | mul o h1 b q =>
  rw [o] at hop
  cases op <;> first | (cases hop;done) | exact hv.eRef (hw.eInt fun t=>p_mul_list S h1 b q)
theorem s_bin {a b:Expr} {x y:IE} {op:Operator} {op':BOp} {pos:Pos} (hop:bopOf op=some op') (ha:SE K sc nm a x) (hb:SE K sc nm b y):SE K sc nm (.BinOp a op b pos) (.bin op' x y):=by
 intro k O hsc hnm ρ H s Q X S h
 rw [arm_eval_BinOp]
 refine re_then (ha k O hsc hnm _ _ _ _ _ S h) fun v av H1 s1 hv S1 h1=>?_
 refine re_held (hb k O hsc hnm _ _ _ _ _ S1 h1) fun w aw H2 s2 hw S2 h2=>?_
 exact wpAny_bind (wpAny_standAt (wpAny_operate' (p_bin hop hv hw S2 h2)))
theorem s_pow {p1 p2 pos:Pos} {a1 a2:Nat} {j e:Int} (he:e=60∨e=80∨e=99) (hj:j=10 ^ e.toNat):SE K sc nm (.BinOp (.Constant (.int 10) a1 p1) .Pow (.Constant (.int e) a2 p2) pos) (.c (.int j)):=by
 intro k O hsc hnm ρ H s Q X S h
 rw [arm_eval_BinOp]
 refine wpAny_bind (wpAny_mkInt (wpAny_bind (wpAny_holding (wpAny_mkInt (wpAny_bind (wpAny_standAt (wpAny_operate' ?_)))))))
 have hb:¬Builtin.Int.intTooBig (((Builtin.Int.intBits 10:Nat):Int)*e)=true:=by
  rcases he with rfl | rfl | rfl <;> decide
 refine AutoIntOps.pow_4 (by rcases he with rfl | rfl | rfl <;> decide) (by rcases he with rfl | rfl | rfl <;> decide) (by decide) (by decide) hb ?_
 subst hj
 exact re_mk (.int _ _) ((S.toks _).toks _ |>.toks _) h
theorem s_neg {a:Expr} {x:IE} {pos:Pos} (ha:SE K sc nm a x):SE K sc nm (.UnaryOp .USub a pos) (.neg x):=by
 intro k O hsc hnm ρ H s Q X S h
 exact UnaryOp_ (re_on (ha k O hsc hnm _ _ _ _ _ S h) fun v av H1 s1 hv S1 h1=>p_neg h1 hv S1)
theorem p_not {v:Value} {x:AV} (hv:VR v x) (S:k.St ρ H s) (h:Bm.truthy x H fun b=>Q (.bool (!b)) H):wpAny (model k.c.prog k.c.w) A (unaryOp .Not v) (k.RE ρ Q) E s :=
 not_of (p_truthy hv S h fun b s' S' hq=>re_mk (.bool _) S' hq)
theorem s_not {a:Expr} {x:IE} {pos:Pos} (ha:SE K sc nm a x):SE K sc nm (.UnaryOp .Not a pos) (.not x):=by
 intro k O hsc hnm ρ H s Q X S h
 exact UnaryOp_ (re_on (ha k O hsc hnm _ _ _ _ _ S h) fun v av H1 s1 hv S1 h1=>p_not hv S1 h1)
theorem tr_bool {M:Model} {b:Bool} {Q':Bool→Shared→Prop} (h:Q' b s):wpAny M A (PySem.truthy (.bool b)) Q' E s:=wpAny_pure h
theorem s_cmp {a b:Expr} {x y:IE} {op:CmpOp} {op':COp} {pos:Pos} (hop:copOf op=op') (hm:lastMarks [op] [b]=false) (ha:SE K sc nm a x) (hb:SE K sc nm b y):SE K sc nm (.Compare a [op] [b] pos) (.cmp op' x y):=by
 intro k O hsc hnm ρ H s Q X S h
 have hu:k.A.units+10 < cLine:=by have:=O.room.2;have:cLine=9900:=rfl;lia
 rw [arm_eval_Compare,markedEach_of_false _ _ _ hm]
 refine re_then (ha k O hsc hnm _ _ _ _ _ S h) fun v av H1 s1 hv S1 h1=>?_
 refine chain_last (re_on (hb k O hsc hnm _ _ _ _ _ S1 h1) fun w aw H2 s2 hw S2 h2=>?_)
 exact p_cmp hop hv hw hu S2 h2 fun b q=>re_mk (.bool b) S2 q
theorem Tru.with {v:AV} {F F':Bool→Prop} (h:Tru H F v) (m:∀ b,F b→(∀ {G:Bool→Prop},Tru H G v→G b)→F' b):Tru H F' v:=by
 cases h with
 | none q=>exact .none (m _ q fun t=>match t with | .none q=>q)
 | bool q=>exact .bool (m _ q fun t=>match t with | .bool q=>q)
 | int q=>exact .int (m _ q fun t=>match t with | .int q=>q)
 | ref h q=>exact .ref h (m _ q fun t=>by
   cases t with
   | ref h' q'=>cases h.symm.trans h';exact q')
theorem rb_mk {b:Bool} {Q:Bool→AHeap→Prop} {s':Shared} (S:k.St ρ H s') (h:Q b H):k.RB ρ Q b s':=⟨H,S,h⟩
theorem b_cmp {a b:Expr} {x y:IE} {op:CmpOp} {op':COp} {pos:Pos} (hop:copOf op=op') (hm:lastMarks [op] [b]=false) (ha:SE K sc nm a x) (hb:SE K sc nm b y):SB K sc nm (.Compare a [op] [b] pos) (.cmp op' x y):=by
 intro k O hsc hnm ρ H s Q X Qb S hQ h
 have hu:k.A.units+10 < cLine:=by have:=O.room.2;have:cLine=9900:=rfl;lia
 rw [arm_isTrue_Compare,markedEach_of_false _ _ _ hm]
 refine re_then (ha k O hsc hnm _ _ _ _ _ S h) fun v av H1 s1 hv S1 h1=>?_
 refine test_last (re_on (hb k O hsc hnm _ _ _ _ _ S1 h1) fun w aw H2 s2 hw S2 h2=>?_)
 exact p_cmp hop hv hw hu S2 h2 fun b q=>p_truthy (.bool b) S2 (hQ _ _ q) fun zz zz=>rb_mk
theorem s_cmp2 {a b d:Expr} {x y z:IE} {op1 op2:CmpOp} {o1 o2:COp} {pos:Pos} (hop1:copOf op1=o1) (hop2:copOf op2=o2) (hm:lastMarks [op1,op2] [b,d]=false) (ha:SE K sc nm a x) (hb:SE K sc nm b y) (hd:SE K sc nm d z) :
  SE K sc nm (.Compare a [op1,op2] [b,d] pos) (.cmp2 o1 o2 x y z):=by
 intro k O hsc hnm ρ H s Q X S h
 have hu:k.A.units+10 < cLine:=by have:=O.room.2;have:cLine=9900:=rfl;lia
 refine Compare_chain (re_on (ha k O hsc hnm _ _ _ _ _ S h) fun v av H1 s1 hv S1 h1=>?_) hm
 refine chain_link (re_on (hb k O hsc hnm _ _ _ _ _ S1 h1) fun w aw H2 s2 hw S2 h2=>?_)
 refine p_cmp hop1 hv hw hu S2 h2 fun b q=>tr_bool ?_
 cases b with
 | false=>exact re_mk (.bool _) S2 q
 | true=>exact chain_last (re_on (hd k O hsc hnm _ _ _ _ _ S2 q) fun u au H4 s4 hu4 S4 h4=>p_cmp hop2 hw hu4 hu S4 h4 fun b q=>re_mk (.bool b) S4 q)
theorem b_cmp2 {a b d:Expr} {x y z:IE} {op1 op2:CmpOp} {o1 o2:COp} {pos:Pos} (hop1:copOf op1=o1) (hop2:copOf op2=o2) (hm:lastMarks [op1,op2] [b,d]=false) (ha:SE K sc nm a x) (hb:SE K sc nm b y) (hd:SE K sc nm d z) :
  SB K sc nm (.Compare a [op1,op2] [b,d] pos) (.cmp2 o1 o2 x y z):=by
 intro k O hsc hnm ρ H s Q X Qb S hQ h
 have hu:k.A.units+10 < cLine:=by have:=O.room.2;have:cLine=9900:=rfl;lia
 refine isTrue_chain (re_on (ha k O hsc hnm _ _ _ _ _ S h) fun v av H1 s1 hv S1 h1=>?_) hm
 refine test_link (re_on (hb k O hsc hnm _ _ _ _ _ S1 h1) fun w aw H2 s2 hw S2 h2=>?_)
 refine p_cmp hop1 hv hw hu S2 h2 fun b q=>tr_bool ?_
 cases b with
 | false=>exact⟨_,S2,tB_of (hQ _ _ q)⟩
 | true=>exact test_last (re_on (hd k O hsc hnm _ _ _ _ _ S2 q) fun u au H4 s4 hu4 S4 h4=>p_cmp hop2 hw hu4 hu S4 h4 fun b q=>p_truthy (.bool b) S4 (hQ _ _ q) fun zz zz=>rb_mk)
theorem s_and {e e2:Expr} {r:List Expr} {x y:IE} {pos:Pos} (ha:SE K sc nm e x) (hb:SE K sc nm (.BoolOp .And (e2::r) pos) y):SE K sc nm (.BoolOp .And (e::e2::r) pos) (.and x y):=by
 intro k O hsc hnm ρ H s Q X S h
 refine BoolOp_and (re_on (ha k O hsc hnm _ _ _ _ _ S h) fun v av H1 s1 hv S1 h1=>?_)
 refine p_truthy hv S1 h1 fun c s2 S2 h2=>?_
 cases c with
 | false=>rw [if_neg Bool.false_ne_true];exact re_mk hv S2 h2
 | true=>rw [if_pos rfl];exact hb k O hsc hnm _ _ _ _ _ S2 h2
theorem s_or {e e2:Expr} {r:List Expr} {x y:IE} {pos:Pos} (ha:SE K sc nm e x) (hb:SE K sc nm (.BoolOp .Or (e2::r) pos) y):SE K sc nm (.BoolOp .Or (e::e2::r) pos) (.or x y):=by
 intro k O hsc hnm ρ H s Q X S h
 refine BoolOp_or (re_on (ha k O hsc hnm _ _ _ _ _ S h) fun v av H1 s1 hv S1 h1=>?_)
 refine p_truthy hv S1 h1 fun c s2 S2 h2=>?_
 cases c with
 | false=>rw [if_neg Bool.false_ne_true];exact hb k O hsc hnm _ _ _ _ _ S2 h2
 | true=>rw [if_pos rfl];exact re_mk hv S2 h2
theorem b_and {e:Expr} {r:List Expr} {x y:IE} {pos:Pos} (ha:SB K sc nm e x) (hb:SB K sc nm (.BoolOp .And r pos) y):SB K sc nm (.BoolOp .And (e::r) pos) (.and x y):=by
 intro k O hsc hnm ρ H s Q X Qb S hQ h
 refine isTrue_and (wpAny_mono (ha k O hsc hnm ρ H s _ X (fun t H=>cnd t (vE k.T k.hd k.call y ρ H Q X) (Qb false H)) S (fun v H hv=>?_) h) (fun c s2 ⟨H2,S2,h2⟩=>?_) fun zz zz e=>e)
 ·exact hv.with fun b h2 d=>match b,h2,@d with | true,h2,_=>h2 | false,h2,d=>d (hQ _ _ h2)
 ·cases c with
  | false=>rw [if_neg Bool.false_ne_true];exact⟨_,S2,h2⟩
  | true=>rw [if_pos rfl];exact hb k O hsc hnm _ _ _ _ _ _ S2 hQ h2
theorem b_or {e:Expr} {r:List Expr} {x y:IE} {pos:Pos} (ha:SB K sc nm e x) (hb:SB K sc nm (.BoolOp .Or r pos) y):SB K sc nm (.BoolOp .Or (e::r) pos) (.or x y):=by
 intro k O hsc hnm ρ H s Q X Qb S hQ h
 refine isTrue_or (wpAny_mono (ha k O hsc hnm ρ H s _ X (fun t H=>cnd t (Qb true H) (vE k.T k.hd k.call y ρ H Q X)) S (fun v H hv=>?_) h) (fun c s2 ⟨H2,S2,h2⟩=>?_) fun zz zz e=>e)
 ·exact hv.with fun b h2 d=>match b,h2,@d with | false,h2,_=>h2 | true,h2,d=>d (hQ _ _ h2)
 ·cases c with
  | false=>rw [if_neg Bool.false_ne_true];exact hb k O hsc hnm _ _ _ _ _ _ S2 hQ h2
  | true=>rw [if_pos rfl];exact⟨_,S2,h2⟩
theorem b_one_and {e:Expr} {x:IE} {pos:Pos} (ha:SB K sc nm e x):SB K sc nm (.BoolOp .And [e] pos) x:=by
 intro k O hsc hnm ρ H s Q X Qb S hQ h
 refine isTrue_and (wpAny_mono (ha k O hsc hnm ρ H s _ X _ S hQ h) (fun c s2 h2=>?_) fun zz zz e=>e)
 cases c with
 | false=>rw [if_neg Bool.false_ne_true];exact h2
 | true=>rw [if_pos rfl];exact isTrue_and_nil h2
theorem b_one_or {e:Expr} {x:IE} {pos:Pos} (ha:SB K sc nm e x):SB K sc nm (.BoolOp .Or [e] pos) x:=by
 intro k O hsc hnm ρ H s Q X Qb S hQ h
 refine isTrue_or (wpAny_mono (ha k O hsc hnm ρ H s _ X _ S hQ h) (fun c s2 h2=>?_) fun zz zz e=>e)
 cases c with
 | false=>rw [if_neg Bool.false_ne_true];exact isTrue_or_nil h2
 | true=>rw [if_pos rfl];exact h2
theorem b_not {a:Expr} {x:IE} {pos:Pos} (ha:SB K sc nm a x):SB K sc nm (.UnaryOp .Not a pos) (.not x):=by
 intro k O hsc hnm ρ H s Q X Qb S hQ h
 refine isTrue_not (wpAny_mono (ha k O hsc hnm ρ H s _ X (fun b H=>Qb (!b) H) S (fun v H hv=>?_) h) (fun c s2 ⟨H2,S2,h2⟩=>⟨H2,S2,h2⟩) fun zz zz e=>e)
 exact hv.with fun b h2 zz=>tB_of (hQ _ _ h2)
theorem s_ife {t a b:Expr} {x y z:IE} {pos:Pos} (ht:SB K sc nm t x) (ha:SE K sc nm a y) (hb:SE K sc nm b z):SE K sc nm (.IfExp t a b pos) (.ife x y z):=by
 intro k O hsc hnm ρ H s Q X S h
 refine IfExp_ (wpAny_mono (ht k O hsc hnm ρ H s _ X (fun r H=>cnd r (vE k.T k.hd k.call y ρ H Q X) (vE k.T k.hd k.call z ρ H Q X)) S (fun v H hv=>hv) h) (fun c s2 ⟨H2,S2,h2⟩=>?_) fun zz zz e=>e)
 cases c with
 | false=>rw [if_neg Bool.false_ne_true];exact hb k O hsc hnm _ _ _ _ _ S2 h2
 | true=>rw [if_pos rfl];exact ha k O hsc hnm _ _ _ _ _ S2 h2
theorem b_ife {t a b:Expr} {x y z:IE} {pos:Pos} (ht:SB K sc nm t x) (ha:SB K sc nm a y) (hb:SB K sc nm b z):SB K sc nm (.IfExp t a b pos) (.ife x y z):=by
 intro k O hsc hnm ρ H s Q X Qb S hQ h
 refine isTrue_IfExp (wpAny_mono (ht k O hsc hnm ρ H s _ X (fun r H=>cnd r (vE k.T k.hd k.call y ρ H Q X) (vE k.T k.hd k.call z ρ H Q X)) S (fun v H hv=>hv) h) (fun c s2 ⟨H2,S2,h2⟩=>?_) fun zz zz e=>e)
 cases c with
 | false=>rw [if_neg Bool.false_ne_true];exact hb k O hsc hnm _ _ _ _ _ _ S2 hQ h2
 | true=>rw [if_pos rfl];exact ha k O hsc hnm _ _ _ _ _ _ S2 hQ h2
theorem b_plain {e:Expr} {x:IE} (ha:SE K sc nm e x) (he:∀ env whole,isTrue e env whole=(do let v ← whole;standAt e.pos;holding [v] (PySem.truthy v))):SB K sc nm e x:=by
 intro k O hsc hnm ρ H s Q X Qb S hQ h
 exact isTrue_plain (re_on (ha k O hsc hnm _ _ _ _ _ S h) fun v av H1 s1 hv S1 h1=>p_truthy hv S1 (hQ _ _ h1) fun zz zz=>rb_mk) (he _ _)
end
end Bm
namespace Bm
open PySem PySem.W PyProof.Rows PySem.SeqAt PySem.MeetsSeq
section
variable {k:Kx} {ρ:List AV} {H:AHeap} {s:Shared} {Q X:EQ} {E:Value→Shared→Prop} {A:Around} {K:Frag} {M:Model} {sc:List (Str×NameKind)} {nm:List String}
theorem s_loc {x:Str} {i:Nat} {pos:Pos} (hd:x≠"__debug__") (hc:x≠"__classdict__") (hi:idx x nm=some i) (hk:okKind (sc.lookup x)=true):SE K sc nm (.Name x pos) (.loc i):=by
 intro k O hsc hnm ρ H s Q X S h
 exact p_loc hd hc (by rw [hnm];exact hi) (by show okKind (k.env.scope.names.lookup x)=true;rw [hsc];exact hk) S h
theorem isG_of {x:Str} (h:isG sc nm x=true):idx x nm=none∧sc.lookup x=some .globalImplicit∧x≠"__debug__":=by
 unfold isG at h
 simp only [Bool.and_eq_true,decide_eq_true_eq] at h
 exact⟨h.1.1,h.1.2,h.2⟩
theorem s_gint {x:Str} {j:Int} {pos:Pos} (hg:isG sc nm x=true) (hj:gint x gInts=some j):SE K sc nm (.Name x pos) (.c (.int j)):=by
 intro k O hsc hnm ρ H s Q X S h
 obtain⟨_,h2,h3⟩:=isG_of hg
 obtain⟨mg,m1,m2,_⟩:=O.F.glob
 obtain⟨t,ht⟩:=m2 x j hj
 exact p_glob (by show k.env.scope.names.lookup x=_;rw [hsc];exact h2) h3 m1 ht S (re_mk (.int _ _) S h)
theorem l_nil:SL K sc nm [] .nil:=by
 intro k O hsc hnm pos ρ H s Q X S h
 unfold vEs at h
 exact wpAny_pure ⟨[],H,rfl,.nil,S,h⟩
theorem l_cons {e:Expr} {r:List Expr} {x:IE} {xs:IEs} (hs:isStar e=false) (ha:SE K sc nm e x) (hb:SL K sc nm r xs):SL K sc nm (e::r) (.cons x xs):=by
 intro k O hsc hnm pos ρ H s Q X S h
 unfold vEs at h
 rw [starEach_cons hs,backTo_cons]
 unfold spliced
 refine re_then (ha k O hsc hnm _ _ _ _ _ S h) fun v av H1 s1 hv S1 h1=>?_
 refine wpAny_bind (wpAny_pure ?_)
 refine wpAny_bind (wpAny_holding (wpAny_mono (hb k O hsc hnm pos _ _ _ _ _ S1 h1) (fun vs s2 ⟨avs,H2,hn,hvs,S2,h2⟩=>?_) fun zz zz e=>e))
 exact wpAny_pure ⟨_,H2,by show vs.length+1=r.length+1;rw [hn],.cons hv hvs,S2,h2⟩
theorem s_list {es:List Expr} {xs:IEs} {pos:Pos} (hl:es.length < 20) (h0:SL K sc nm es xs):SE K sc nm (.List es pos) (.list xs):=by
 intro k O hsc hnm ρ H s Q X S h
 refine wpAny_List (wpAny_mono (h0 k O hsc hnm pos _ _ _ _ _ S h) (fun vs s2 ⟨avs,H2,hn,hvs,S2,h2⟩=>?_) fun zz zz e=>e)
 have hz:vs.length≤lim:=by unfold lim;lia
 exact⟨lim_line hz,St_newL S2 (arr:=vs.toArray) hvs (by rw [List.size_toArray];exact hz) s2.toks h2⟩
theorem s_tup {es:List Expr} {xs:IEs} {n:Nat} {pos:Pos} (hl:es.length < 20) (h0:SL K sc nm es xs):SE K sc nm (.Tuple es n pos) (.tup xs):=by
 intro k O hsc hnm ρ H s Q X S h
 refine wpAny_Tuple (wpAny_mono (h0 k O hsc hnm pos _ _ _ _ _ S h) (fun vs s2 ⟨avs,H2,hn,hvs,S2,h2⟩=>?_) fun zz zz e=>e)
 have hz:vs.length≤lim:=by unfold lim;lia
 exact⟨lim_line hz,St_newT S2 (arr:=vs.toArray) hvs (by rw [List.size_toArray];exact hz) s2.toks h2⟩
theorem s_dict0 {pos:Pos}:SE K sc nm (.Dict [] [] pos) .dict0:=by
 intro k O hsc hnm ρ H s Q X S h
 exact p_dict0 O S h
theorem XE_drop {p:Addr×Obj} (hp:∀ v,p.2.data≠.cell v) {e:Value} {s':Shared} (h:(k.withP p).XE ρ X e s'):k.XE ρ X e s':=by
 obtain⟨G,ea,n,H',m,h1,S,V,h2,h3,h4⟩:=h
 refine⟨G,ea,n,H',m,h1,S.lessP fun q hq=>.tail _ hq,V.subP fun c o v hm hd=>?_,h2,h3,h4⟩
 rcases List.mem_cons.mp hm with z | z
 ·cases z;exact absurd hd (hp v)
 ·exact z
theorem s_deck {a b:Expr} {x y:IE} {m1 m2:String} {n1 n2:Nat} {p1 p2 pos:Pos} (ha:SE K sc nm a x) (hb:SE K sc nm b y) :
  SE K sc nm (.Dict [some (.Constant (.str (Str.ofString m1)) n1 p1),some (.Constant (.str (Str.ofString m2)) n2 p2)] [a,b] pos) (.deck m1 m2 x y):=by
 intro k O hsc hnm ρ H s Q X S h
 have hold:=St_old S
 have S0:=St_protect S { cls:=.type "dict",data:=.dict #[] } rfl s.toks
 have nc:∀ v,({ cls:=.type "dict",data:=.dict #[] }:Obj).data≠.cell v:=fun v q=>by cases q
 have hl:s.heap.NoLimit:=by
  obtain⟨G,S1,_⟩:=S
  exact O.F.nolim.keeps fun b o e=>(S1.keep b o e).2
 have hsys:=low_sys hl
 generalize hD:s.heap.objs.size=D at *
 refine wpAny_Dict_pairs (knd:=strKind k.c.prog k.c.w) (pairs:=[(eval (.Constant (.str (Str.ofString m1)) n1 p1) k.env,do let x ← eval a k.env;standAt pos;pure x),(eval (.Constant (.str (Str.ofString m2)) n2 p2) k.env,do let x ← eval b k.env;standAt pos;pure x)]) rfl (by simp) (by simp) ?_
 rw [hD]
 generalize ho0:({ cls:=.type "dict",data:=.dict #[] }:Obj)=o0 at *
 have O':=O.withP (D,o0)
 unfold evalPairs
 refine wpAny_bind (wpAny_Constant_str ?_)
 refine re_held (k:=k.withP (D,o0)) (ρ:=ρ) (Q:=fun x H=>vE k.T k.hd k.call y ρ H (fun y H=>m1≠m2∧∀ a,H a=none→Q (.ref a) (upd H a (.deck [(m1,x),(m2,y)]))) X) ?_ fun v av H1 s1 hv S1 h1=>?_
 ·refine wpAny_bind (wpAny_mono (ha (k.withP (D,o0)) O' hsc hnm ρ H _ _ X (S0.toks _) h) (fun v s1 h1=>wpAny_bind (wpAny_standAt (wpAny_pure h1))) fun zz zz e=>XE_drop (p:=(D,o0)) nc e)
 refine wpAny_bind (wpAny_holding ?_)
 unfold evalPairs
 refine wpAny_bind (wpAny_Constant_str ?_)
 refine re_held (k:=k.withP (D,o0)) (ρ:=ρ) (Q:=fun y H=>m1≠m2∧∀ a,H a=none→Q (.ref a) (upd H a (.deck [(m1,av),(m2,y)]))) ?_ fun w aw H2 s2 hw S2 h2=>?_
 ·refine wpAny_bind (wpAny_mono (hb (k.withP (D,o0)) O' hsc hnm ρ H1 _ _ X (S1.toks _) h1) (fun v s1 h1=>wpAny_bind (wpAny_standAt (wpAny_pure h1))) fun zz zz e=>XE_drop (p:=(D,o0)) nc e)
 refine wpAny_bind (wpAny_holding ?_)
 unfold evalPairs
 refine wpAny_pure (wpAny_pure (wpAny_pure ⟨[(Str.ofString m1,v),(Str.ofString m2,w)],?_,?_,fun h' hd hs=>?_⟩))
 ·exact⟨strKind_is _ _ _ _,rfl,strKind_is _ _ _ _,rfl,trivial⟩
 ·obtain⟨G2,SC2,_⟩:=S2
  obtain⟨o,es,ep,e1,e2,e3,e4⟩:=Heap.DictOf.new (knd:=strKind k.c.prog k.c.w) s.heap
  have e5:o=o0:=by rw [← ho0];rw [Heap.get?_push_size _ rfl] at e1;cases e1;rfl
  subst e5
  rcases(SC2.pv (D,o) (.head _)).2 with z | ⟨⟨⟨e,he,z⟩,_⟩,_⟩
  ·exact⟨o,es,ep,z,e2,e3,e4⟩
  ·exact absurd z (hold.2 e he)
 ·have hne:Str.ofString m1≠Str.ofString m2:=fun e=>h2.1 (ofString_inj e)
  have em:merged [] [(Str.ofString m1,v),(Str.ofString m2,w)]=[(Str.ofString m1,v),(Str.ofString m2,w)]:=by
   simp [merged,stored,hne]
  rw [em] at hd
  obtain⟨hn,S3⟩:=St_release (k:=k) (o:=o0) S2 nc hold.1 (tk:=s2.toks+2) (ao:=.deck [(m1,av),(m2,aw)]) hs (fun G=>(⟨_,hd,.cons ⟨rfl,hv⟩ (.cons ⟨rfl,hw⟩ .nil),by show 2≤lim;unfold lim;lia,hsys⟩:Ob k.c _ h' D (.deck [(m1,av),(m2,aw)]))) hold.2
  exact⟨_,_,.ref _,S3,h2.2 _ hn⟩
theorem s_attr {v:Expr} {x:IE} {m:String} {pos:Pos} (hb:bare v=false) (ha:SE K sc nm v x):SE K sc nm (.Attribute v (Str.ofString m) pos) (.attr x m):=by
 intro k O hsc hnm ρ H s Q X S h
 rw [arm_eval_Attribute,bare_base hb]
 refine re_then (ha k O hsc hnm _ _ _ _ _ S h) fun v av H1 s1 hv S1 h1=>?_
 refine wpAny_bind (wpAny_standAt ?_)
 refine re_held (p_attr O.F hv S1 h1 fun zz zz zz hr S2 h2=>re_mk hr S2 h2) fun r ar H2 s2 hr S2 h2=>?_
 exact wpAny_bind (wpAny_letTemporaryGo (wpAny_pure (re_mk hr S2 h2)))
theorem s_idx {v i:Expr} {x y:IE} {pos:Pos} (ha:SE K sc nm v x) (hb:SE K sc nm i y):SE K sc nm (.Subscript v i pos) (.idx x y):=by
 intro k O hsc hnm ρ H s Q X S h
 refine Subscript_ (re_on (ha k O hsc hnm _ _ _ _ _ S h) fun v av H1 s1 hv S1 h1=>?_)
 refine re_on (hb k O hsc hnm _ _ _ _ _ S1 h1) fun w aw H2 s2 hw S2 h2=>?_
 exact p_idx hv hw S2 h2
theorem s_key {v:Expr} {x:IE} {m:String} {n:Nat} {p pos:Pos} (ha:SE K sc nm v x):SE K sc nm (.Subscript v (.Constant (.str (Str.ofString m)) n p) pos) (.key x m):=by
 intro k O hsc hnm ρ H s Q X S h
 refine Subscript_ (re_on (ha k O hsc hnm _ _ _ _ _ S h) fun v av H1 s1 hv S1 h1=>?_)
 exact wpAny_Constant_str (p_key hv (S1.toks _) h1)
theorem s_upto {v:Expr} {x:IE} {m:Nat} {kk:Nat} {p1 p2 pos:Pos} (ha:SE K sc nm v x):SE K sc nm (.Subscript v (.Slice none (some (.Constant (.int (m:Int)) kk p1)) none p2) pos) (.upto x m):=by
 intro k O hsc hnm ρ H s Q X S h
 refine Subscript_ (re_on (ha k O hsc hnm _ _ _ _ _ S h) fun v av H1 s1 hv S1 h1=>?_)
 obtain⟨hl,hq⟩:=h1
 refine hv.eRef ?_
 refine wpAny_Slice ?_
 rw [evalPart_none,evalPart_some]
 refine wpAny_pure (wpAny_mkInt (wpAny_pure ?_))
 refine p_slice (tk:=s1.toks+1) (S1.toks _) (.inr hl) .none (.int _ _) .none (by simp) (fun arr hx=>?_) hq
 rw [slicePick_upto']
 exact hx.take m
theorem s_all {v:Expr} {x:IE} {p2 pos:Pos} (ha:SE K sc nm v x):SE K sc nm (.Subscript v (.Slice none none none p2) pos) (.all x):=by
 intro k O hsc hnm ρ H s Q X S h
 refine Subscript_ (re_on (ha k O hsc hnm _ _ _ _ _ S h) fun v av H1 s1 hv S1 h1=>?_)
 obtain⟨hl,hq⟩:=h1
 refine hv.eRef ?_
 refine wpAny_Slice ?_
 rw [evalPart_none]
 refine wpAny_pure (wpAny_pure (wpAny_pure ?_))
 refine p_slice (tk:=s1.toks) S1 (.inl hl) .none .none .none (by simp) (fun arr hx=>?_) hq
 rw [slicePick_all]
 exact hx
theorem s_rev {v:Expr} {x:IE} {kk:Nat} {p0 p1 p2 pos:Pos} (ha:SE K sc nm v x):SE K sc nm (.Subscript v (.Slice none none (some (.UnaryOp .USub (.Constant (.int 1) kk p0) p1)) p2) pos) (.rev x):=by
 intro k O hsc hnm ρ H s Q X S h
 refine Subscript_ (re_on (ha k O hsc hnm _ _ _ _ _ S h) fun v av H1 s1 hv S1 h1=>?_)
 obtain⟨hl,hq⟩:=h1
 refine hv.eRef ?_
 refine wpAny_Slice ?_
 rw [evalPart_none,evalPart_some]
 refine wpAny_pure (wpAny_pure (UnaryOp_ (wpAny_mkInt (P.neg_int ?_))))
 refine p_slice (tk:=_) ((S1.toks _).toks _) (.inl hl) .none .none (.int _ _) (by decide) (fun arr hx=>?_) hq
 rw [krv_pick]
 exact hx.reverse
theorem eval_CallName {f:Str} {fp pos:Pos} {args:List Expr} {env:Env}:eval (.Call (.Name f fp) args [] pos) env=(do callWith pos (← eval (.Name f fp) env) [] (backTo pos (starEach args env)) []):=rfl
theorem glob_ok {x:Str} (hg:isG sc nm x=true) (hsc:k.env.scope.names=sc):k.env.kindOf x=some .globalImplicit∧x≠"__debug__":=by
 obtain⟨_,h2,h3⟩:=isG_of hg
 exact⟨by show k.env.scope.names.lookup x=_;rw [hsc];exact h2,h3⟩
theorem s_call {f:Str} {fp pos:Pos} {args:List Expr} {a:Nat} {es:IEs} (hg:isG sc nm f=true) (hf:gnat f gFns=some a) (hs:args.all (fun e=>!isStar e)=true) (h0:SL K sc nm args es):SE K sc nm (.Call (.Name f fp) args [] pos) (.call a es):=by
 intro k O hsc hnm ρ H s Q X S h
 rw [eval_CallName]
 obtain⟨g1,g2⟩:=glob_ok (k:=k) hg hsc
 obtain⟨mg,m1,_,m3,_⟩:=O.F.glob
 refine wpAny_bind (p_glob g1 g2 m1 (m3 f a hf) S ?_)
 refine with_K (O.F.keepF f a hf) hs (wpAny_mono (h0 k O hsc hnm pos _ _ _ _ _ S h) (fun vs s2 ⟨avs,H2,hn,hvs,S2,h2⟩=>?_) fun zz zz e=>e)
 refine⟨?_,p_callf O hvs S2 h2⟩
 obtain⟨G2,SC2,_⟩:=S2
 exact keepK O.F SC2
theorem s_new {f:Str} {fp pos:Pos} {args:List Expr} {a:Nat} {es:IEs} (hg:isG sc nm f=true) (hf:gnat f gCls=some a) (hs:args.all (fun e=>!isStar e)=true) (h0:SL K sc nm args es):SE K sc nm (.Call (.Name f fp) args [] pos) (.new a es):=by
 intro k O hsc hnm ρ H s Q X S h
 rw [eval_CallName]
 obtain⟨g1,g2⟩:=glob_ok (k:=k) hg hsc
 obtain⟨mg,m1,_,_,m3,_⟩:=O.F.glob
 refine wpAny_bind (p_glob g1 g2 m1 (m3 f a hf) S ?_)
 cases hi:k.T.ini a with
 | none =>
  refine with_K (O.F.keepC f a hf) hs (wpAny_mono (h0 k O hsc hnm pos _ _ _ _ _ S h) (fun vs s2 ⟨avs,H2,hn,hvs,S2,h2⟩=>by unfold newC at h2;rw [hi] at h2;exact h2.elim) fun zz zz e=>e)
 | some fi =>
  refine with_K (O.F.ini a fi hi).1 hs (wpAny_mono (h0 k O hsc hnm pos _ _ _ _ _ S h) (fun vs s2 ⟨avs,H2,hn,hvs,S2,h2⟩=>?_) fun zz zz e=>e)
  unfold newC at h2
  rw [hi] at h2
  refine⟨?_,p_new O hi hvs S2 h2⟩
  obtain⟨G2,SC2,_⟩:=S2
  exact keepK O.F SC2
theorem listM_cases {n:String} (h:listM n=true):n = "append"∨n = "pop"∨n = "remove":=by
 unfold listM at h
 simp only [Bool.or_eq_true,decide_eq_true_eq] at h
 rcases h with (h | h) | h
 ·exact .inl h
 ·exact .inr (.inl h)
 ·exact .inr (.inr h)
set_option tactic.hygienic true in
theorem s_meth {o:Expr} {m:String} {ap pos:Pos} {args:List Expr} {x:IE} {es:IEs} (hp:ap.endLine=pos.line) (hb:bare o=false) (hl:args.length < 20) (hs:args.all (fun e=>!isStar e)=true) (ha:SE K sc nm o x) (h0:SL K sc nm args es) :
  SE K sc nm (.Call (.Attribute o (Str.ofString m) ap) args [] pos) (.meth x m es):=by
 intro k O hsc hnm ρ H s Q X S h
 rw [eval_meth hb hs hl hp]
 refine re_then (ha k O hsc hnm _ _ _ _ _ S h) fun v av H1 s1 hv S1 h1=>?_
 refine wpAny_bind (wpAny_standAt (wpAny_bind (wpAny_holding ?_)))
 cases h1 with
 | @list a xs hH hm q =>
  refine hv.eRef (St_list S1 hH fun arr n ho zz zz zz=>?_)
  have hT:s1.TypeIs (.ref a) "list":=⟨_,ho,rfl⟩
  have hd:∀ b:Nat,Value.ref a=.ref b→∃ o,s1.heap.get? b=some o∧o.dict=none:=fun b e=>by cases e;exact⟨_,ho,rfl⟩
  refine wpAny_mono (E:=k.XE ρ X) (Q':=fun fx s'=>wpAny (model k.c.prog k.c.w) k.A (do let p ← (pure pos:Sem Pos);callWith p fx.1 fx.2 (backTo pos (starEach args k.env)) []) (k.RE ρ Q) (k.XE ρ X) s') (Q:=fun r s'=>r=(.builtin ("list."++m),[.ref a])∧s'=s1) ?_ (fun fx s' ⟨e1,e2⟩=>?_) fun zz zz e=>e
  ·rcases listM_cases hm with e | e | e <;> rw [e]
   ·exact getMethod_builtin hT F.plainAttrs_list F.slot_list_append F.type_list_append hd ⟨rfl,rfl⟩
   ·exact getMethod_builtin hT F.plainAttrs_list F.slot_list_pop F.type_list_pop hd ⟨rfl,rfl⟩
   ·exact getMethod_builtin hT F.plainAttrs_list F.slot_list_remove F.type_list_remove hd ⟨rfl,rfl⟩
  ·rw [e1,e2]
   exact wpAny_bind (wpAny_pure (with_B hs (wpAny_mono (h0 k O hsc hnm pos _ _ _ _ _ S1 q) (fun vs s2 ⟨avs,H2,hn,hvs,S2,h2⟩=>p_listM hvs S2 h2) fun zz zz e=>e)))
 | @obj a C f fs hH hsh hm q =>
  refine hv.eRef ?_
  obtain⟨G,SC,V⟩:=id S1
  have M:=O.F.mth C m f hm
  obtain⟨dx,es',n,ho,hdx,hod,hL⟩:=(SC.hv a _ hH).2
  have I:InstAt s1.heap a (instObj C dx) C (some (dictOf es' n)):=⟨ho,rfl,rfl,hod⟩
  have hg:=getL_of hL m
  rw [hsh] at hg
  have hs':shadowIn (some (dictOf es' n)) (Str.ofString m)=some false:=by
   show(getL (Str.ofString m) es').map (·.isSome)=some false
   rw [hg];rfl
  refine method_fn (keepK O.F SC) I (plainGet_of M.2.1).1 (plainGet_of M.2.1).2 M.2.2.1 M.2.2.2 hs' ?_
  exact wpAny_bind (wpAny_pure (with_K M.1 hs (wpAny_mono (h0 k O hsc hnm pos _ _ _ _ _ S1 q) (fun vs s2 ⟨avs,H2,hn,hvs,S2,h2⟩=>⟨let ⟨_,SC2,_⟩:=S2;keepK O.F SC2,p_callf O (.cons (.ref a) hvs) S2 h2⟩) fun zz zz e=>e)))
 | @dict a d hH hm q =>
  refine hv.eRef ?_
  rw [hm]
  obtain⟨G,SC,V⟩:=id S1
  obtain⟨kvs,hd,_⟩:=(SC.hv a _ hH).2
  have hdn:∃ o,s1.heap.get? a=some o∧o.dict=none:=by
   obtain⟨o,es',ep,ho,hex,_⟩:=hd
   exact⟨o,ho,hex.2.1⟩
  refine getMethod_builtin hd.mapOf.typeIs F.plainAttrs_dict F.slot_dict_get F.type_dict_get (fun b e=>by cases e;exact hdn) ?_
  exact wpAny_bind (wpAny_pure (with_B hs (wpAny_mono (h0 k O hsc hnm pos _ _ _ _ _ S1 q) (fun vs s2 ⟨avs,H2,hn,hvs,S2,h2⟩=>p_dictM hvs S2 h2) fun zz zz e=>e)))
end
end Bm
namespace Bm
open PySem PySem.W PyProof.Rows PySem.SeqAt PySem.MeetsSeq
section
variable {k:Kx} {ρ:List AV} {H:AHeap} {s:Shared} {Q X:EQ} {E:Value→Shared→Prop} {A:Around} {K:Frag} {M:Model} {sc:List (Str×NameKind)} {nm:List String}
theorem l_one {a:Expr} {x:IE} (hs:isStar a=false) (ha:SE K sc nm a x):SL K sc nm [a] (.cons x .nil):=l_cons hs ha l_nil
theorem l_two {a b:Expr} {x y:IE} (hs:isStar a=false) (hs2:isStar b=false) (ha:SE K sc nm a x) (hb:SE K sc nm b y):SL K sc nm [a,b] (.cons x (.cons y .nil)):=l_cons hs ha (l_one hs2 hb)
theorem stars1 {a:Expr} (hs:isStar a=false):[a].all (fun e=>!isStar e)=true:=by simp [hs]
theorem stars2 {a b:Expr} (hs:isStar a=false) (hs2:isStar b=false):[a,b].all (fun e=>!isStar e)=true:=by simp [hs,hs2]
theorem call_B1 {f:Str} {id:String} {fp pos:Pos} {a:Expr} {x:IE} {Q1:EQ} {Q':Value→Shared→Prop} (O:k.Ok K) (hsc:k.env.scope.names=sc) (hnm:k.nm=nm) (hg:isG sc nm f=true) (hf:f∈(["len","max","min","abs","list","range"]:List Str))
  (hb:∃ mb,k.c.base.Ns builtinsNs mb∧mb f=some (.builtin id)) (hs:isStar a=false) (ha:SE K sc nm a x) (S:k.St ρ H s) (h:vE k.T k.hd k.call x ρ H Q1 X)
  (hc:∀ v av H2 s2,VR v av→k.St ρ H2 s2→Q1 av H2→wpAny (model k.c.prog k.c.w) k.A (call (.builtin id) [v]) Q' (k.XE ρ X) s2):wpAny (model k.c.prog k.c.w) k.A (eval (.Call (.Name f fp) [a] [] pos) k.env) Q' (k.XE ρ X) s:=by
 rw [eval_CallName]
 obtain⟨g1,g2⟩:=glob_ok (k:=k) hg hsc
 obtain⟨mg,m1,_,_,_,m5,_⟩:=O.F.glob
 obtain⟨mb,b1,b2⟩:=hb
 refine wpAny_bind (p_built g1 g2 m1 (m5 f hf) b1 b2 S ?_)
 have hl:vEs k.T k.hd k.call (.cons x .nil) ρ H (fun vs H=>match vs with | [v]=>Q1 v H | _=>False) X:=by
  unfold vEs
  exact h
 refine with_B (stars1 hs) (wpAny_mono (l_one hs ha k O hsc hnm pos _ _ _ _ _ S hl) (fun vs s2 ⟨avs,H2,hn,hvs,S2,h2⟩=>?_) fun zz zz e=>e)
 cases hvs with
 | nil=>cases hn
 | cons r t=>cases t with
  | nil=>exact hc _ _ _ _ r S2 h2
  | cons=>cases hn
theorem call_T1 {f:Str} {id:String} {fp pos:Pos} {a:Expr} {x:IE} {Q1:EQ} {Q':Value→Shared→Prop} (O:k.Ok K) (hsc:k.env.scope.names=sc) (hnm:k.nm=nm) (hg:isG sc nm f=true) (hf:f∈(["len","max","min","abs","list","range"]:List Str))
  (hb:∃ mb,k.c.base.Ns builtinsNs mb∧mb f=some (.type id)) (hs:isStar a=false) (ha:SE K sc nm a x) (S:k.St ρ H s) (h:vE k.T k.hd k.call x ρ H Q1 X)
  (hc:∀ v av H2 s2,VR v av→k.St ρ H2 s2→Q1 av H2→wpAny (model k.c.prog k.c.w) k.A (call (.type id) [v]) Q' (k.XE ρ X) s2):wpAny (model k.c.prog k.c.w) k.A (eval (.Call (.Name f fp) [a] [] pos) k.env) Q' (k.XE ρ X) s:=by
 rw [eval_CallName]
 obtain⟨g1,g2⟩:=glob_ok (k:=k) hg hsc
 obtain⟨mg,m1,_,_,_,m5,_⟩:=O.F.glob
 obtain⟨mb,b1,b2⟩:=hb
 refine wpAny_bind (p_built g1 g2 m1 (m5 f hf) b1 b2 S ?_)
 have hl:vEs k.T k.hd k.call (.cons x .nil) ρ H (fun vs H=>match vs with | [v]=>Q1 v H | _=>False) X:=by
  unfold vEs
  exact h
 refine with_T (stars1 hs) (wpAny_mono (l_one hs ha k O hsc hnm pos _ _ _ _ _ S hl) (fun vs s2 ⟨avs,H2,hn,hvs,S2,h2⟩=>?_) fun zz zz e=>e)
 cases hvs with
 | nil=>cases hn
 | cons r t=>cases t with
  | nil=>exact hc _ _ _ _ r S2 h2
  | cons=>cases hn
theorem call_B2 {f:Str} {id:String} {fp pos:Pos} {a b:Expr} {x y:IE} {Q1:AV→AV→AHeap→Prop} {Q':Value→Shared→Prop} (O:k.Ok K) (hsc:k.env.scope.names=sc) (hnm:k.nm=nm) (hg:isG sc nm f=true) (hf:f∈(["len","max","min","abs","list","range"]:List Str))
  (hb:∃ mb,k.c.base.Ns builtinsNs mb∧mb f=some (.builtin id)) (hs:isStar a=false) (hs2:isStar b=false) (ha:SE K sc nm a x) (hb':SE K sc nm b y) (S:k.St ρ H s) (h:vE k.T k.hd k.call x ρ H (fun v H=>vE k.T k.hd k.call y ρ H (fun w H=>Q1 v w H) X) X)
  (hc:∀ v w av aw H2 s2,VR v av→VR w aw→k.St ρ H2 s2→Q1 av aw H2→wpAny (model k.c.prog k.c.w) k.A (call (.builtin id) [v,w]) Q' (k.XE ρ X) s2):wpAny (model k.c.prog k.c.w) k.A (eval (.Call (.Name f fp) [a,b] [] pos) k.env) Q' (k.XE ρ X) s:=by
 rw [eval_CallName]
 obtain⟨g1,g2⟩:=glob_ok (k:=k) hg hsc
 obtain⟨mg,m1,_,_,_,m5,_⟩:=O.F.glob
 obtain⟨mb,b1,b2⟩:=hb
 refine wpAny_bind (p_built g1 g2 m1 (m5 f hf) b1 b2 S ?_)
 have hl:vEs k.T k.hd k.call (.cons x (.cons y .nil)) ρ H (fun vs H=>match vs with | [v,w]=>Q1 v w H | _=>False) X:=by
  unfold vEs vEs
  exact h
 refine with_B (stars2 hs hs2) (wpAny_mono (l_two hs hs2 ha hb' k O hsc hnm pos _ _ _ _ _ S hl) (fun vs s2 ⟨avs,H2,hn,hvs,S2,h2⟩=>?_) fun zz zz e=>e)
 cases hvs with
 | nil=>cases hn
 | cons r t=>cases t with
  | nil=>cases hn
  | cons r2 t=>cases t with
   | nil=>exact hc _ _ _ _ _ _ r r2 S2 h2
   | cons=>cases hn
theorem call_T2 {f:Str} {id:String} {fp pos:Pos} {a b:Expr} {x y:IE} {Q1:AV→AV→AHeap→Prop} {Q':Value→Shared→Prop} (O:k.Ok K) (hsc:k.env.scope.names=sc) (hnm:k.nm=nm) (hg:isG sc nm f=true) (hf:f∈(["len","max","min","abs","list","range"]:List Str))
  (hb:∃ mb,k.c.base.Ns builtinsNs mb∧mb f=some (.type id)) (hs:isStar a=false) (hs2:isStar b=false) (ha:SE K sc nm a x) (hb':SE K sc nm b y) (S:k.St ρ H s) (h:vE k.T k.hd k.call x ρ H (fun v H=>vE k.T k.hd k.call y ρ H (fun w H=>Q1 v w H) X) X)
  (hc:∀ v w av aw H2 s2,VR v av→VR w aw→k.St ρ H2 s2→Q1 av aw H2→wpAny (model k.c.prog k.c.w) k.A (call (.type id) [v,w]) Q' (k.XE ρ X) s2):wpAny (model k.c.prog k.c.w) k.A (eval (.Call (.Name f fp) [a,b] [] pos) k.env) Q' (k.XE ρ X) s:=by
 rw [eval_CallName]
 obtain⟨g1,g2⟩:=glob_ok (k:=k) hg hsc
 obtain⟨mg,m1,_,_,_,m5,_⟩:=O.F.glob
 obtain⟨mb,b1,b2⟩:=hb
 refine wpAny_bind (p_built g1 g2 m1 (m5 f hf) b1 b2 S ?_)
 have hl:vEs k.T k.hd k.call (.cons x (.cons y .nil)) ρ H (fun vs H=>match vs with | [v,w]=>Q1 v w H | _=>False) X:=by
  unfold vEs vEs
  exact h
 refine with_T (stars2 hs hs2) (wpAny_mono (l_two hs hs2 ha hb' k O hsc hnm pos _ _ _ _ _ S hl) (fun vs s2 ⟨avs,H2,hn,hvs,S2,h2⟩=>?_) fun zz zz e=>e)
 cases hvs with
 | nil=>cases hn
 | cons r t=>cases t with
  | nil=>cases hn
  | cons r2 t=>cases t with
   | nil=>exact hc _ _ _ _ _ _ r r2 S2 h2
   | cons=>cases hn
theorem s_len {a:Expr} {x:IE} {fp pos:Pos} (hg:isG sc nm "len" = true) (hs:isStar a=false) (ha:SE K sc nm a x):SE K sc nm (.Call (.Name "len" fp) [a] [] pos) (.len x):=by
 intro k O hsc hnm ρ H s Q X S h
 obtain⟨mb,b1,b2,b3,b4,b5,b6,b7,_⟩:=id O.F.built
 exact call_B1 O hsc hnm hg (by decide) ⟨mb,b1,b2⟩ hs ha S h fun v av H2 s2 hv S2 h2=>p_len h2 hv S2
theorem s_abs {a:Expr} {x:IE} {fp pos:Pos} (hg:isG sc nm "abs" = true) (hs:isStar a=false) (ha:SE K sc nm a x):SE K sc nm (.Call (.Name "abs" fp) [a] [] pos) (.abs x):=by
 intro k O hsc hnm ρ H s Q X S h
 obtain⟨mb,b1,b2,b3,b4,b5,b6,b7,_⟩:=id O.F.built
 exact call_B1 O hsc hnm hg (by decide) ⟨mb,b1,b5⟩ hs ha S h fun v av H2 s2 hv S2 h2=>p_abs h2 hv S2
theorem s_maxl {a:Expr} {x:IE} {fp pos:Pos} (hg:isG sc nm "max" = true) (hs:isStar a=false) (ha:SE K sc nm a x):SE K sc nm (.Call (.Name "max" fp) [a] [] pos) (.maxl x):=by
 intro k O hsc hnm ρ H s Q X S h
 obtain⟨mb,b1,b2,b3,b4,b5,b6,b7,_⟩:=id O.F.built
 exact call_B1 O hsc hnm hg (by decide) ⟨mb,b1,b3⟩ hs ha S h fun v av H2 s2 hv S2 h2=>p_maxl h2.2 hv (O.hand h2.1) S2
theorem s_max2 {a b:Expr} {x y:IE} {fp pos:Pos} (hg:isG sc nm "max" = true) (hs:isStar a=false) (hs2:isStar b=false) (ha:SE K sc nm a x) (hb:SE K sc nm b y):SE K sc nm (.Call (.Name "max" fp) [a,b] [] pos) (.max2 x y):=by
 intro k O hsc hnm ρ H s Q X S h
 obtain⟨mb,b1,b2,b3,b4,b5,b6,b7,_⟩:=id O.F.built
 exact call_B2 O hsc hnm hg (by decide) ⟨mb,b1,b3⟩ hs hs2 ha hb S h fun v w av aw H2 s2 hv hw S2 h2=>p_max2 h2.2 hv hw (O.hand h2.1) S2
theorem s_min2 {a b:Expr} {x y:IE} {fp pos:Pos} (hg:isG sc nm "min" = true) (hs:isStar a=false) (hs2:isStar b=false) (ha:SE K sc nm a x) (hb:SE K sc nm b y):SE K sc nm (.Call (.Name "min" fp) [a,b] [] pos) (.min2 x y):=by
 intro k O hsc hnm ρ H s Q X S h
 obtain⟨mb,b1,b2,b3,b4,b5,b6,b7,_⟩:=id O.F.built
 exact call_B2 O hsc hnm hg (by decide) ⟨mb,b1,b4⟩ hs hs2 ha hb S h fun v w av aw H2 s2 hv hw S2 h2=>p_min2 h2.2 hv hw (O.hand h2.1) S2
theorem s_copy {a:Expr} {x:IE} {fp pos:Pos} (hg:isG sc nm "list" = true) (hs:isStar a=false) (ha:SE K sc nm a x):SE K sc nm (.Call (.Name "list" fp) [a] [] pos) (.copy x):=by
 intro k O hsc hnm ρ H s Q X S h
 obtain⟨mb,b1,b2,b3,b4,b5,b6,b7,_⟩:=id O.F.built
 exact call_T1 O hsc hnm hg (by decide) ⟨mb,b1,b6⟩ hs ha S h fun v av H2 s2 hv S2 h2=>p_copy h2.2 hv S2
theorem ints_length (lo hi:Int):(Bm.iRng lo hi).length=(hi - lo).toNat:=by unfold Bm.iRng;rw [List.length_map,List.length_range]
inductive Kx.RG (k:Kx) (ρ:List AV) (Q:AV→AV→AHeap→Prop) (v:Value) (s':Shared):Prop
 | mk (r:Nat) (lo hi:Int) (t u w:Tok) (H':AHeap) (hv:v=.ref r) (g:IsRange s'.heap r lo hi 1 t u w) (S:k.St ρ H' s') (q:Q (.int lo) (.int hi) H')
noncomputable def SR (K:Frag) (sc:List (Str×NameKind)) (nm:List String) (e:Expr) (x y:IE):Prop:=∀ (k:Kx),k.Ok K→k.env.scope.names=sc→k.nm=nm→∀ (ρ:List AV) (H:AHeap) (s:Shared) (Q:AV→AV→AHeap→Prop) (X:EQ),
 k.St ρ H s→(∀ v w H,Q v w H→∃ lo hi,v=.int lo∧w=.int hi)→vE k.T k.hd k.call x ρ H (fun v H=>vE k.T k.hd k.call y ρ H (fun w H=>Q v w H) X) X→wpAny (model k.c.prog k.c.w) k.A (eval e k.env) (k.RG ρ Q) (k.XE ρ X) s
theorem s_range2 {a b:Expr} {x y:IE} {fp pos:Pos} (hg:isG sc nm "range" = true) (hs:isStar a=false) (hs2:isStar b=false) (ha:SE K sc nm a x) (hb:SE K sc nm b y):SR K sc nm (.Call (.Name "range" fp) [a,b] [] pos) x y:=by
 intro k O hsc hnm ρ H s Q X S hQ h
 obtain⟨mb,b1,b2,b3,b4,b5,b6,b7,_⟩:=id O.F.built
 refine call_T2 O hsc hnm hg (by decide) ⟨mb,b1,b7⟩ hs hs2 ha hb S h fun v w av aw H2 s2 hv hw S2 h2=>?_
 obtain⟨lo,hi,rfl,rfl⟩:=hQ _ _ _ h2
 cases hv;cases hw
 exact call_range_2 ⟨_,_,_,_,_,_,H2,rfl,IsRange.new ..,St_garb S2 _ _,h2⟩
theorem s_range1 {b:Expr} {y:IE} {fp pos:Pos} (hg:isG sc nm "range" = true) (hs2:isStar b=false) (hb:SE K sc nm b y):SR K sc nm (.Call (.Name "range" fp) [b] [] pos) (.c (.int 0)) y:=by
 intro k O hsc hnm ρ H s Q X S hQ h
 obtain⟨mb,b1,b2,b3,b4,b5,b6,b7,_⟩:=id O.F.built
 refine call_T1 O hsc hnm hg (by decide) ⟨mb,b1,b7⟩ hs2 hb S h fun w aw H2 s2 hw S2 h2=>?_
 obtain⟨lo,hi,e,rfl⟩:=hQ _ _ _ h2
 cases e
 cases hw
 exact call_range_1 ⟨_,_,_,_,_,_,H2,rfl,IsRange.new ..,St_garb S2 _ _,h2⟩
theorem vRange_at {v w:AV} {F:Src→List AV→Prop} (h:vRange v w F):∃ lo hi,v=.int lo∧w=.int hi:=by
 cases h;exact⟨_,_,rfl,rfl⟩
set_option tactic.hygienic true in
theorem t_over {e:Expr} {x:IE} (ha:SE K sc nm e x):ST K sc nm e (.over x):=by
 intro k O hsc hnm ρ H s Q X S h
 unfold vT at h
 refine re_on (ha k O hsc hnm _ _ _ _ _ S h) fun v av H1 s1 hv S1 h1=>?_
 cases h1 with
 | @list l xs hl q=>exact hv.eRef (St_list S1 hl fun arr n ho hx e hz=>⟨.lst l xs,xs,H1,S1,⟨rfl,rfl,hl⟩,hl,hz,q⟩)
 | @tup l xs hl q=>exact hv.eRef (St_tup S1 hl fun arr n ho hx e hz=>⟨.tup l xs,xs,H1,S1,⟨rfl,rfl,hl⟩,hl,hz,q⟩)
theorem t_range {e:Expr} {x y:IE} (ha:SR K sc nm e x y):ST K sc nm e (.range x y):=by
 intro k O hsc hnm ρ H s Q X S h
 unfold vT at h
 refine wpAny_mono (ha k O hsc hnm ρ H s (fun v w H=>vRange v w fun s xs=>Q s xs H) X S (fun v w H hq=>vRange_at hq) h) (fun v s' ⟨r,lo,hi,t,u,w,H',e,hr,S',hq⟩=>?_) fun zz zz e=>e
 subst e
 obtain⟨⟨h1,h2,h3,h4,h5,h6⟩,hq⟩:=hq
 exact⟨.rng,_,H',S',⟨r,lo,hi,t,u,w,rfl,hr,⟨h3,h2,h4,h5⟩,rfl⟩,trivial,by rw [ints_length];unfold lim at h6 ⊢;omega,hq⟩
theorem s_listR {a:Expr} {x y:IE} {fp pos:Pos} (hg:isG sc nm "list" = true) (hs:isStar a=false) (ha:SR K sc nm a x y):SE K sc nm (.Call (.Name "list" fp) [a] [] pos) (.listR x y):=by
 intro k O hsc hnm ρ H s Q X S h
 obtain⟨mb,b1,b2,b3,b4,b5,b6,b7,_⟩:=id O.F.built
 rw [eval_CallName]
 obtain⟨g1,g2⟩:=glob_ok (k:=k) hg hsc
 obtain⟨mg,m1,_,_,_,m5,_⟩:=O.F.glob
 refine wpAny_bind (p_built g1 g2 m1 (m5 "list" (by decide)) b1 b6 S ?_)
 refine with_T (stars1 hs) ?_
 rw [starEach_cons hs,backTo_cons]
 unfold spliced
 refine wpAny_bind (wpAny_mono (ha k O hsc hnm ρ H s (fun v w H=>k.hd=false∧vRange v w fun zz xs=>∀ a,H a=none→Q (.ref a) (upd H a (.list xs))) X S (fun v w H hq=>vRange_at hq.2) h) (fun v s' ⟨r,lo,hi,t,u,w,H',e,hr,S',hq⟩=>?_) fun zz zz e=>e)
 subst e
 refine wpAny_bind (wpAny_pure (wpAny_bind (wpAny_holding (wpAny_pure (wpAny_pure ?_)))))
 obtain⟨hhd,⟨h1,h2,h3,h4,h5,h6⟩,hq⟩:=hq
 exact p_listR (O.hand hhd) S' hr ⟨h3,h2,h4,h5⟩ h6 hq
end
end Bm
namespace Bm
open PySem PySem.W PyProof.Rows PySem.SeqAt PySem.MeetsSeq
section
variable {k:Kx} {ρ:List AV} {H:AHeap} {s:Shared} {Q X:EQ} {E:Value→Shared→Prop} {A:Around} {K:Frag} {M:Model} {sc:List (Str×NameKind)} {nm:List String}
theorem compL_If {src:Src} {elt:AV→AHeap→EQ→Prop}:∀ (xs acc:List AV) (H:AHeap) (K:List AV→AHeap→Prop),compIfL src (fun zz H K=>K true H) elt xs acc H K=compL src elt xs acc H K
 | [],_,_,_=>rfl
 | x::xs,acc,H,K=>by
  unfold compIfL compL
  show elt x H _=_
  congr 1
  funext w H'
  rw [compL_If xs]
theorem notSet {e:Expr} (h:isSet e=false) (env:Env) (x:Value):foldedSetIterable e env x=pure x:=by
 cases e <;> first | rfl | (cases h)
theorem Ok_comp (O:k.Ok K) (scope:Scope) (t:Str) (C:Addr) (cs:List (Str×Addr)) (P:List (Addr×Obj)):(k.inComp scope t C cs P).Ok K:=⟨O.F,O.room,O.frames,O.hand,O.calls⟩
theorem XE_false {e:Value} {s':Shared} (h:k.XE ρ (fun zz zz=>False) e s'):False:=let ⟨_,_,_,_,_,_,_,_,_,_,f⟩:=h;f
theorem comp_use {scope:Scope} {t:Str} {tp:Pos} {elt it:Expr} {pos pos2:Pos} {e':IE} {i':IT} (hset:isSet it=false) (hit:ST K sc nm it i') (he:SE K (cscope sc scope.names) (t.toString::nm) elt e')
  (O:k.Ok K) (hsc:k.env.scope.names=sc) (hnm:k.nm=nm) (CO:CompOk k.env k.nm scope t) (use:Option (Value→Sem Unit)) {Q':Value→Shared→Prop} {K':List AV→AHeap→Prop} (S:k.St ρ H s)
  (h:vT k.T k.hd k.call i' ρ H (fun src xs H=>k.hd=false∧compL src (fun v H K=>vE k.T k.hd k.call e' (v::ρ) H K (fun zz zz=>False)) xs [] H K') X)
  (hfin:match use with
   | none=>∀ D H1 ws s',K' ws H1→H1 D=none→k.St ρ (upd H1 D (.list ws)) s'→Q' (.ref D) s'
   | some u=>∀ D H1 ws s' C oC,K' ws H1→H1 D=none→(k.withP (C,oC)).St ρ (upd H1 D (.list ws)) s'→wpAny (model k.c.prog k.c.w) k.A (u (.ref D)) (fun zz s''=>∃ ρ',(k.withP (C,oC)).St ρ' (upd H1 D (.list ws)) s''∧∀ s3,k.St ρ' (upd H1 D (.list ws)) s3→Q' .none s3) (k.XE ρ X) s') :
  wpAny (model k.c.prog k.c.w) k.A (comprehension (.ListComp elt [⟨.Name t tp,it,[],0⟩] scope pos) scope k.env pos2 (newList []) false (eval it k.env) use) Q' (k.XE ρ X) s:=by
 subst hsc;subst hnm
 refine p_comp S CO use (g:=⟨.Name t tp,it,[],0⟩) (tgt:=elt) rfl (notSet hset k.env) (cond:=fun zz H K=>K true H) (elt':=fun v H K=>vE k.T k.hd k.call e' (v::ρ) H K (fun zz zz=>False)) (K':=K')
  (wpAny_mono (hit k O rfl rfl ρ H s _ X S h) (fun v s1 ⟨src,xs,H1,S1,h1,h2,h3,h4⟩=>⟨src,xs,H1,S1,h1,h2,h3,O.hand h4.1,by rw [compL_If];exact h4.2⟩) fun zz zz e=>e) ?_ ?_ hfin
 ·intro C cs P' v H s Qb St _ hq
  exact wpAny_tests_nil ⟨H,St,hq⟩
 ·intro C cs P' v H s Q St hn hq
  exact wpAny_mono (he (k.inComp scope t C cs P') (Ok_comp O ..) hn rfl (v::ρ) H s Q _ St hq) (fun zz zz h=>h) fun zz zz e=>XE_false e
theorem compIf_use {scope:Scope} {t:Str} {tp:Pos} {elt it q:Expr} {pos pos2:Pos} {e' q':IE} {i':IT} (hset:isSet it=false) (hit:ST K sc nm it i') (he:SE K (cscope sc scope.names) (t.toString::nm) elt e') (hq:SB K (cscope sc scope.names) (t.toString::nm) q q')
  (O:k.Ok K) (hsc:k.env.scope.names=sc) (hnm:k.nm=nm) (CO:CompOk k.env k.nm scope t) (use:Option (Value→Sem Unit)) {Q':Value→Shared→Prop} {K':List AV→AHeap→Prop} (S:k.St ρ H s)
  (h:vT k.T k.hd k.call i' ρ H (fun src xs H=>k.hd=false∧compIfL src (fun v H K=>vE k.T k.hd k.call q' (v::ρ) H (fun x H=>Bm.truthy x H fun b=>K b H) (fun zz zz=>False)) (fun v H K=>vE k.T k.hd k.call e' (v::ρ) H K (fun zz zz=>False)) xs [] H K') X)
  (hfin:match use with
   | none=>∀ D H1 ws s',K' ws H1→H1 D=none→k.St ρ (upd H1 D (.list ws)) s'→Q' (.ref D) s'
   | some u=>∀ D H1 ws s' C oC,K' ws H1→H1 D=none→(k.withP (C,oC)).St ρ (upd H1 D (.list ws)) s'→wpAny (model k.c.prog k.c.w) k.A (u (.ref D)) (fun zz s''=>∃ ρ',(k.withP (C,oC)).St ρ' (upd H1 D (.list ws)) s''∧∀ s3,k.St ρ' (upd H1 D (.list ws)) s3→Q' .none s3) (k.XE ρ X) s') :
  wpAny (model k.c.prog k.c.w) k.A (comprehension (.ListComp elt [⟨.Name t tp,it,[q],0⟩] scope pos) scope k.env pos2 (newList []) false (eval it k.env) use) Q' (k.XE ρ X) s:=by
 subst hsc;subst hnm
 refine p_comp S CO use (g:=⟨.Name t tp,it,[q],0⟩) (tgt:=elt) rfl (notSet hset k.env) (elt':=fun v H K=>vE k.T k.hd k.call e' (v::ρ) H K (fun zz zz=>False)) (K':=K')
  (wpAny_mono (hit k O rfl rfl ρ H s _ X S h) (fun v s1 ⟨src,xs,H1,S1,h1,h2,h3,h4⟩=>⟨src,xs,H1,S1,h1,h2,h3,O.hand h4.1,h4.2⟩) fun zz zz e=>e) ?_ ?_ hfin
 ·intro C cs P' v H s Qb St hn hv
  refine wpAny_tests_one (wpAny_mono (hq (k.inComp scope t C cs P') (Ok_comp O ..) hn rfl (v::ρ) H s _ _ Qb St (fun v H h=>h) hv) (fun zz zz h=>h) fun zz zz e=>XE_false e)
 ·intro C cs P' v H s Q St hn hq
  exact wpAny_mono (he (k.inComp scope t C cs P') (Ok_comp O ..) hn rfl (v::ρ) H s Q _ St hq) (fun zz zz h=>h) fun zz zz e=>XE_false e
theorem s_comp {scope:Scope} {t:Str} {tp:Pos} {elt it:Expr} {pos:Pos} {e':IE} {i':IT} (hset:isSet it=false) (hit:ST K sc nm it i') (he:SE K (cscope sc scope.names) (t.toString::nm) elt e')
  (h1:scope.kind=.function) (h2:(cscope sc scope.names).lookup t=some .local∨(cscope sc scope.names).lookup t=some .cell) (h3:cscopeOk sc nm t scope.names=true) (h4:Str.ofString t.toString=t) :
  SE K sc nm (.ListComp elt [⟨.Name t tp,it,[],0⟩] scope pos) (.comp e' i'):=by
 intro k O hsc hnm ρ H s Q X S h
 have CO:CompOk k.env k.nm scope t:=by subst hsc;subst hnm;exact⟨h1,h2,h3,h4⟩
 exact comp_use hset hit he O hsc hnm CO none S h fun D H1 ws s' hK hD S'=>re_mk (.ref D) S' (hK D hD)
theorem s_compIf {scope:Scope} {t:Str} {tp:Pos} {elt it q:Expr} {pos:Pos} {e' q':IE} {i':IT} (hset:isSet it=false) (hit:ST K sc nm it i') (he:SE K (cscope sc scope.names) (t.toString::nm) elt e') (hq:SB K (cscope sc scope.names) (t.toString::nm) q q')
  (h1:scope.kind=.function) (h2:(cscope sc scope.names).lookup t=some .local∨(cscope sc scope.names).lookup t=some .cell) (h3:cscopeOk sc nm t scope.names=true) (h4:Str.ofString t.toString=t) :
  SE K sc nm (.ListComp elt [⟨.Name t tp,it,[q],0⟩] scope pos) (.compIf e' i' q'):=by
 intro k O hsc hnm ρ H s Q X S h
 have CO:CompOk k.env k.nm scope t:=by subst hsc;subst hnm;exact⟨h1,h2,h3,h4⟩
 exact compIf_use hset hit he hq O hsc hnm CO none S h fun D H1 ws s' hK hD S'=>re_mk (.ref D) S' (hK D hD)
theorem s_none {k1:Nat} {pos:Pos}:SE K sc nm (.Constant .none k1 pos) (.c .none):=by
 intro k O hsc hnm ρ H s Q X S h
 exact p_none S h
theorem s_bool {b:Bool} {k1:Nat} {pos:Pos}:SE K sc nm (.Constant (.bool b) k1 pos) (.c (.bool b)):=by
 intro k O hsc hnm ρ H s Q X S h
 exact p_bool S h
theorem s_int {i:Int} {k1:Nat} {pos:Pos}:SE K sc nm (.Constant (.int i) k1 pos) (.c (.int i)):=by
 intro k O hsc hnm ρ H s Q X S h
 exact p_int (b:=0) S h
end
end Bm
namespace Bm
open PySem PySem.W PyProof.Rows PySem.SeqAt PySem.MeetsSeq
inductive FlR:Flow→Fl→Prop
 | next:FlR .next .next
 | brk:FlR .brk .brk
 | cont:FlR .cont .cont
 | ret {v av}:VR v av→FlR (.ret v) (.ret av)
structure OkS (K:Frag) (T:Tab) (calls:Bool→CallSem) (k:Kx):Prop where
 ok:k.Ok K
 t:k.T=T
 call:k.call=calls k.hd
 both:∀ b,CallOk k.c (calls b) k.n b
 ws:k.ws=k.nm
 frm:∃ outer L,k.fr=k.env::outer∧k.env.frame=some L
namespace Kx
inductive RF (k:Kx) (Q:SQ) (f:Flow) (s':Shared):Prop
 | mk (fl:Fl) (ρ':List AV) (H':AHeap) (r:Bm.FlR f fl) (S:k.St ρ' H' s') (q:Q fl ρ' H')
inductive XS (k:Kx) (X:SX) (e:Value) (s':Shared):Prop
 | mk (G:Nat→Kd) (ea:Nat) (n:AV) (ρ':List AV) (H':AHeap) (m:TbM) (he:e=.ref ea) (S:StC k.c G k.fr k.P H' s') (V:Vr G k.P k.env k.nm k.ws ρ' s'.heap) (F:Fly G s'.heap ea n m) (L:∀ L,m=.held L→k.env.frame=some L) (x:X n ρ' H')
end Kx
noncomputable def SS (K:Frag) (T:Tab) (calls:Bool→CallSem) (sc:List (Str×NameKind)) (nm:List String) (st:Stmt) (ir:IS):Prop:=∀ (k:Kx),OkS K T calls k→k.env.scope.names=sc→k.nm=nm→∀ (ρ:List AV) (H:AHeap) (s:Shared) (Q:SQ) (X:SX),
 k.St ρ H s→vS T calls ir k.hd ρ H Q X→wpAny (model k.c.prog k.c.w) k.A (exec st k.env) (k.RF Q) (k.XS X) s
noncomputable def SSs (K:Frag) (T:Tab) (calls:Bool→CallSem) (sc:List (Str×NameKind)) (nm:List String) (ss:List Stmt) (ir:ISs):Prop:=∀ (k:Kx),OkS K T calls k→k.env.scope.names=sc→k.nm=nm→∀ (ρ:List AV) (H:AHeap) (s:Shared) (Q:SQ) (X:SX),
 k.St ρ H s→vSs T calls ir k.hd ρ H Q X→wpAny (model k.c.prog k.c.w) k.A (execs ss k.env) (k.RF Q) (k.XS X) s
section
variable {k:Kx} {ρ:List AV} {H:AHeap} {s:Shared} {Q:SQ} {X:SX} {E:Value→Shared→Prop} {A:Around} {K:Frag} {M:Model} {sc:List (Str×NameKind)} {nm:List String} {T:Tab} {calls:Bool→CallSem}
theorem XE_S {e:Value} {s':Shared} (h:k.XE ρ (fun n H=>X n ρ H) e s'):k.XS X e s':=by
 obtain⟨G,ea,n,H',m,h1,h2,h3,h4,h5,h6⟩:=h
 exact⟨G,ea,n,ρ,H',m,h1,h2,h3,h4,h5,h6⟩
theorem rf_mk {f:Flow} {fl:Fl} (hf:FlR f fl) (S:k.St ρ H s) (h:Q fl ρ H):k.RF Q f s:=⟨fl,ρ,H,hf,S,h⟩
theorem st_e {α:Type} {e:Expr} {ir:IE} {f:Value→Sem α} {Q':α→Shared→Prop} {Qe:EQ} (O:OkS K T calls k) (hsc:k.env.scope.names=sc) (hnm:k.nm=nm) (he:SE K sc nm e ir) (S:k.St ρ H s) (h:vE T k.hd (calls k.hd) ir ρ H Qe (fun n H=>X n ρ H))
  (hf:∀ v av H' s',VR v av→k.St ρ H' s'→Qe av H'→wpAny (model k.c.prog k.c.w) k.A (f v) Q' (k.XS X) s'):wpAny (model k.c.prog k.c.w) k.A (eval e k.env >>= f) Q' (k.XS X) s:=by
 rw [← O.t,← O.call] at h
 refine wpAny_bind (wpAny_mono (he k O.ok hsc hnm ρ H s Qe _ S h) (fun v s' ⟨av,H',hv,S',hq⟩=>hf v av H' s' hv S' hq) fun zz zz e=>XE_S e)
theorem st_h {α:Type} {vs:List Value} {e:Expr} {ir:IE} {f:Value→Sem α} {Q':α→Shared→Prop} {Qe:EQ} (O:OkS K T calls k) (hsc:k.env.scope.names=sc) (hnm:k.nm=nm) (he:SE K sc nm e ir) (S:k.St ρ H s) (h:vE T k.hd (calls k.hd) ir ρ H Qe (fun n H=>X n ρ H))
  (hf:∀ v av H' s',VR v av→k.St ρ H' s'→Qe av H'→wpAny (model k.c.prog k.c.w) k.A (f v) Q' (k.XS X) s'):wpAny (model k.c.prog k.c.w) k.A (holding vs (eval e k.env) >>= f) Q' (k.XS X) s:=by
 rw [← O.t,← O.call] at h
 refine wpAny_bind (wpAny_holding (wpAny_mono (he k O.ok hsc hnm ρ H s Qe _ S h) (fun v s' ⟨av,H',hv,S',hq⟩=>hf v av H' s' hv S' hq) fun zz zz e=>XE_S e))
theorem no_swap {v:Expr} {t:Option Expr} {n:Nat} {env:Env} (h:isComp v=false):swapsWith v t n env=pure false:=by
 cases v <;> first | rfl | (cases h)
theorem not_inter (S:k.St ρ H s):interactive k.env=false:=by
 obtain⟨G,_,V⟩:=S
 unfold interactive
 rw [V.fn];rfl
theorem ss_expr {v:Expr} {e:IE} {pos:Pos} (hc:isComp v=false) (he:SE K sc nm v e):SS K T calls sc nm (.Expr v pos) (.expr e):=by
 intro k O hsc hnm ρ H s Q X S h
 rw [arm_exec_Expr,no_swap hc,not_inter S]
 refine wpAny_bind (wpAny_standAt ?_)
 rw [if_neg Bool.false_ne_true]
 refine wpAny_bind (wpAny_pure ?_)
 rw [if_neg Bool.false_ne_true]
 exact st_e O hsc hnm he S h fun v av H' s' hv S' hq=>wpAny_dropValue (rf_mk .next S' hq)
theorem ss_ret {v:Expr} {e:IE} {pos:Pos} (he:SE K sc nm v e):SS K T calls sc nm (.Return (some v) pos) (.ret e):=by
 intro k O hsc hnm ρ H s Q X S h
 rw [arm_exec_Return]
 refine wpAny_bind (wpAny_standAt ?_)
 exact st_e O hsc hnm he S h fun v av H' s' hv S' hq=>wpAny_pure (rf_mk (.ret hv) S' hq)
theorem ss_retN {pos:Pos}:SS K T calls sc nm (.Return none pos) .retN:=by
 intro k O hsc hnm ρ H s Q X S h
 rw [arm_exec_Return]
 exact wpAny_bind (wpAny_standAt (wpAny_pure (rf_mk (.ret .none) S h)))
theorem ss_pass {pos:Pos}:SS K T calls sc nm (.Pass pos) .pass:=by
 intro k O hsc hnm ρ H s Q X S h
 rw [arm_exec_Pass]
 exact wpAny_bind (wpAny_standAt (wpAny_pure (rf_mk .next S h)))
theorem ss_brk {pos:Pos}:SS K T calls sc nm (.Break pos) .brk:=by
 intro k O hsc hnm ρ H s Q X S h
 rw [arm_exec_Break]
 exact wpAny_bind (wpAny_standAt (wpAny_pure (rf_mk .brk S h)))
theorem ss_cont {pos:Pos}:SS K T calls sc nm (.Continue pos) .cont:=by
 intro k O hsc hnm ρ H s Q X S h
 rw [arm_exec_Continue]
 exact wpAny_bind (wpAny_standAt (wpAny_pure (rf_mk .cont S h)))
theorem ss_bad {st:Stmt}:SS K T calls sc nm st .bad:=by
 intro k O hsc hnm ρ H s Q X S h
 exact h.elim
theorem mem_ws (O:OkS K T calls k) {x:Str} {i:Nat} (hi:idx x k.nm=some i):∃ n∈k.ws,Str.ofString n=x:=by
 obtain⟨n,h1,h2⟩:=idx_at hi
 exact⟨n,by rw [O.ws];exact List.mem_of_getElem? h1,h2⟩
theorem no_swapN {v:Expr} {x:Str} {p:Pos} {env:Env}:swappedStores [.Name x p] v env=pure none:=by cases v <;> rfl
theorem no_swapA {v o:Expr} {x:Str} {p:Pos} {env:Env}:swappedStores [.Attribute o x p] v env=pure none:=by cases v <;> rfl
theorem no_swapS {v o i:Expr} {p:Pos} {env:Env}:swappedStores [.Subscript o i p] v env=pure none:=by cases v <;> rfl
theorem no_swapT {v:Expr} {ts:List Expr} {n:Nat} {p:Pos} {env:Env} (h:isTup v=false):swappedStores [.Tuple ts n p] v env=pure none:=by cases v <;> first | rfl | (cases h)
theorem ss_asg {v:Expr} {e:IE} {x:Str} {i:Nat} {p pos:Pos} (hc:isComp v=false) (hi:idx x nm=some i) (he:SE K sc nm v e):SS K T calls sc nm (.Assign [.Name x p] v pos) (.asg i e):=by
 intro k O hsc hnm ρ H s Q X S h
 rw [arm_exec_Assign]
 refine wpAny_bind (wpAny_standAt ?_)
 show wpAny _ _ (swapsWith v (some (.Name x p)) pos.line k.env >>= _) _ _ s
 rw [no_swap hc]
 refine wpAny_bind (wpAny_pure ?_)
 rw [if_neg Bool.false_ne_true]
 refine st_e O hsc hnm he S h fun v' av H' s' hv S' hq=>?_
 rw [no_swapN]
 refine wpAny_bind (wpAny_pure (wpAny_bind ?_))
 subst hnm
 exact p_assign hi (mem_ws O hi) hv S' fun s2 S2=>wpAny_pure (rf_mk .next S2 hq)
theorem ss_setA {v o:Expr} {e o':IE} {m:String} {p pos:Pos} (hc:isComp v=false) (ho:SE K sc nm o o') (he:SE K sc nm v e):SS K T calls sc nm (.Assign [.Attribute o (Str.ofString m) p] v pos) (.setA o' m e):=by
 intro k O hsc hnm ρ H s Q X S h
 rw [arm_exec_Assign]
 refine wpAny_bind (wpAny_standAt ?_)
 show wpAny _ _ (swapsWith v (some (.Attribute o (Str.ofString m) p)) pos.line k.env >>= _) _ _ s
 rw [no_swap hc]
 refine wpAny_bind (wpAny_pure ?_)
 rw [if_neg Bool.false_ne_true]
 refine st_e O hsc hnm he S h fun v' av H' s' hv S' hq=>?_
 rw [no_swapA]
 refine wpAny_bind (wpAny_pure (wpAny_bind ?_))
 show wpAny _ _ (assign (.Attribute o (Str.ofString m) p) k.env v') _ _ s'
 rw [arm_assign_Attribute]
 refine st_h O hsc hnm ho S' hq fun ov ao H2 s2 hov S2 hq2=>?_
 refine wpAny_bind (wpAny_standAt (wpAny_bind (wpAny_holding ?_)))
 rw [← O.t] at hq2
 exact p_setA O.ok.F hov hv S2 hq2 fun H3 s3 S3 h3=>wpAny_release' (wpAny_pure (rf_mk .next S3 h3))
theorem ss_setI {v o i:Expr} {e o' i':IE} {p pos:Pos} (hc:isComp v=false) (hs:(match i with | .Slice ..=>false | _=>true)=true) (ho:SE K sc nm o o') (hi:SE K sc nm i i') (he:SE K sc nm v e):SS K T calls sc nm (.Assign [.Subscript o i p] v pos) (.setI o' i' e):=by
 intro k O hsc hnm ρ H s Q X S h
 rw [arm_exec_Assign]
 refine wpAny_bind (wpAny_standAt ?_)
 show wpAny _ _ (swapsWith v (some (.Subscript o i p)) pos.line k.env >>= _) _ _ s
 rw [no_swap hc]
 refine wpAny_bind (wpAny_pure ?_)
 rw [if_neg Bool.false_ne_true]
 refine st_e O hsc hnm he S h fun v' av H' s' hv S' hq=>?_
 rw [no_swapS]
 refine wpAny_bind (wpAny_pure (wpAny_bind ?_))
 show wpAny _ _ (assign (.Subscript o i p) k.env v') _ _ s'
 rw [arm_assign_Subscript]
 refine st_h O hsc hnm ho S' hq fun ov ao H2 s2 hov S2 hq2=>?_
 refine st_h O hsc hnm hi S2 hq2 fun iv ai H3 s3 hiv S3 hq3=>?_
 refine wpAny_bind (wpAny_standAt (wpAny_bind (wpAny_holding ?_)))
 exact p_setI hov hiv hv S3 hq3 fun H4 s4 S4 h4=>wpAny_release' (wpAny_pure (rf_mk .next S4 h4))
theorem p_inplace {op:Operator} {op':BOp} (hop:aopOf op=some op') {a:Int} {t:Tok} {w:Value} {y:AV} {Qe:EQ} (hw:VR w y) (S:k.St ρ H s) (h:vBin op' (.int a) y H Qe):wpAny (model k.c.prog k.c.w) A (inplaceOp op (.int a t) w) (k.RE ρ Qe) E s:=by
 cases h with
 | int q =>
  refine hw.eInt fun u=>?_
  cases op <;> cases hop
  ·exact PyProof.Rows.iadd_int (re_int _ S q)
  ·exact PyProof.Rows.isub_int (re_int _ S q)
theorem p_load {x:Str} {i:Nat} {Q':Value→Shared→Prop} (hc:x≠"__classdict__") (hi:idx x k.nm=some i) (hok:okKind (k.env.kindOf x)=true) (S:k.St ρ H s) (hu:lget ρ i≠.undef) (h:∀ v,VR v (lget ρ i)→Q' v s) :
  wpAny (model k.c.prog k.c.w) A (loadName k.env x) Q' E s:=by
 obtain⟨G,S1,V⟩:=id S
 obtain⟨v,hr,hv⟩:=V.reads x i hi hok hu
 have hcell:∀ ca,((G ca=.var∧s.heap.IsCell ca (some v))∨∃ o,(ca,o)∈k.P∧o.data=.cell (some v))→s.heap.IsCell ca (some v):=fun ca q=>by
  rcases q with ⟨_,q⟩ | ⟨o,q1,q2⟩
  ·exact q
  ·rcases(S1.pv _ q1).2 with z | ⟨⟨_,es,n,z⟩,_⟩
   ·exact⟨o,z,q2⟩
   ·rw [q2] at z;cases z
 rcases hr with ⟨h1,m,h2,h3⟩ | ⟨ca,h1 | h1,h2,h3⟩
 ·exact wpAny_loadName_local V.fn h1 h2 h3 (h v hv)
 ·exact wpAny_loadName_cell V.fn h1 h2 (hcell ca h3) (h v hv)
 ·exact wpAny_loadName_free V.fn h1 h2 (hcell ca h3) (h v hv) (by simpa using hc)
theorem ss_augL {v:Expr} {e:IE} {x:Str} {i:Nat} {op:Operator} {op':BOp} {p pos:Pos} (hc:x≠"__classdict__") (hi:idx x nm=some i) (hk:okKind (sc.lookup x)=true) (hop:aopOf op=some op') (he:SE K sc nm v e) :
  SS K T calls sc nm (.AugAssign (.Name x p) op v pos) (.augL i op' e):=by
 intro k O hsc hnm ρ H s Q X S h
 rw [arm_exec_AugAssign]
 refine wpAny_bind (wpAny_standAt (wpAny_bind ?_))
 obtain⟨a,hl,h⟩:=isI_of (v:=lget ρ i) h
 subst hnm
 refine p_load hc hi (by show okKind (k.env.scope.names.lookup x)=true;rw [hsc];exact hk) S (by rw [hl];exact fun q=>nomatch q) fun w hw=>?_
 rw [hl] at hw
 cases hw
 refine st_h O hsc rfl he S h fun v' av H' s' hv S' hq=>?_
 refine wpAny_bind (wpAny_standAt (wpAny_bind (wpAny_operate' (wpAny_mono (p_inplace hop hv S' hq) (fun r s2 ⟨ar,H2,hr,S2,h2⟩=>?_) fun zz zz e=>e))))
 refine wpAny_bind (wpAny_standAt (wpAny_bind ?_))
 exact p_store hi (mem_ws O hi) hr S2 fun s3 S3=>wpAny_pure (rf_mk .next S3 h2)
theorem ss_augA {v o:Expr} {e o':IE} {m:String} {op:Operator} {op':BOp} {p pos:Pos} (hop:aopOf op=some op') (ho:SE K sc nm o o') (he:SE K sc nm v e) :
  SS K T calls sc nm (.AugAssign (.Attribute o (Str.ofString m) p) op v pos) (.augA o' m op' e):=by
 intro k O hsc hnm ρ H s Q X S h
 have eT:=O.t
 subst eT
 rw [arm_exec_AugAssign_2]
 refine wpAny_bind (wpAny_standAt ?_)
 refine st_e O hsc hnm ho S h fun ov ao H1 s1 hov S1 h1=>?_
 refine wpAny_bind (wpAny_holding (wpAny_bind (wpAny_standAt (wpAny_bind ?_))))
 refine p_attr O.ok.F (expr:=true) hov S1 h1 fun w aw s2 hw S2 h2=>VR.isI h2 hw fun a t h2=>?_
 refine st_h O hsc hnm he S2 h2 fun v' av H3 s3 hv S3 h3=>?_
 refine wpAny_bind (wpAny_standAt (wpAny_operate' (wpAny_mono (p_inplace hop hv S3 h3) (fun r s4 ⟨ar,H4,hr,S4,h4⟩=>?_) fun zz zz e=>e)))
 refine wpAny_bind (wpAny_standAt (wpAny_bind (wpAny_holding ?_)))
 exact p_setA O.ok.F hov hr S4 h4 fun H5 s5 S5 h5=>wpAny_bind (wpAny_release' (wpAny_pure (rf_mk .next S5 h5)))
theorem ss_augK {v o:Expr} {e o':IE} {m:String} {op:Operator} {op':BOp} {kk:Nat} {p p2 pos:Pos} (hop:aopOf op=some op') (ho:SE K sc nm o o') (he:SE K sc nm v e) :
  SS K T calls sc nm (.AugAssign (.Subscript o (.Constant (.str (Str.ofString m)) kk p2) p) op v pos) (.augK o' m op' e):=by
 intro k O hsc hnm ρ H s Q X S h
 rw [arm_exec_AugAssign_3]
 refine wpAny_bind (wpAny_standAt ?_)
 refine st_e O hsc hnm ho S h fun ov ao H1 s1 hov S1 h1=>?_
 refine wpAny_bind (wpAny_holding (wpAny_Constant_str ?_))
 refine wpAny_bind (wpAny_holding (wpAny_bind (wpAny_standAt (wpAny_bind ?_))))
 refine p_getK hov (S1.toks _) h1 fun w aw s2 hw S2 h2=>VR.isI h2 hw fun a t h2=>?_
 refine st_h O hsc hnm he S2 h2 fun v' av H3 s3 hv S3 h3=>?_
 refine wpAny_bind (wpAny_standAt (wpAny_operate' (wpAny_mono (p_inplace hop hv S3 h3) (fun r s4 ⟨ar,H4,hr,S4,h4⟩=>?_) fun zz zz e=>e)))
 refine wpAny_bind (wpAny_standAt ?_)
 refine wpAny_bind (wpAny_holding ?_)
 exact p_setK hov hr S4 h4 fun H5 s5 S5 h5=>wpAny_bind (wpAny_release' (wpAny_pure (rf_mk .next S5 h5)))
theorem unp_stores (O:OkS K T calls k) {ts:List Expr} {is:List Nat} (hn:N2 k.nm ts is):∀ (vs:List Value) (avs:List AV) (ρ ρ':List AV) (s:Shared) {Q':Unit→Shared→Prop},L2 VR vs avs→unpL is avs ρ=some ρ'→k.St ρ H s→(∀ s',k.St ρ' H s'→Q' () s') →
  wpAny (model k.c.prog k.c.w) A (assignInOrder ((assignEach ts k.env).map (·.2)) vs) Q' E s:=by
 induction hn with
 | nil =>
  intro vs avs ρ ρ' s Q' hv hu S h
  cases hv with
  | nil=>cases hu;exact assignInOrder_nil (h s S)
  | cons=>cases hu
 | cons hi _ ih =>
  intro vs avs ρ ρ' s Q' hv hu S h
  cases hv with
  | nil=>cases hu
  | cons r t=>exact assignInOrder_cons (p_assign hi (mem_ws O hi) r S fun s2 S2=>ih _ _ _ ρ' s2 t hu S2 h)
theorem names2_plain {nm:List String} {ts:List Expr} {is:List Nat} {env:Env} (h:N2 nm ts is):(assignEach ts env).length=is.length∧(assignEach ts env).findIdx? (·.1)=none:=by
 induction h with
 | nil=>exact⟨rfl,rfl⟩
 | @cons x p ts i is hi _ ih =>
  obtain⟨h1,h2⟩:=ih
  show(((false,assign (.Name x p) env)::assignEach ts env).length=_)∧(((false,assign (.Name x p) env)::assignEach ts env).findIdx? (·.1))=none
  refine⟨by rw [List.length_cons,List.length_cons,h1],?_⟩
  rw [List.findIdx?_cons,h2];rfl
theorem unpL_length:∀ {is:List Nat} {vs ρ ρ':List AV},unpL is vs ρ=some ρ'→is.length=vs.length
 | [],[],_,_,_=>rfl
 | [],_::_,_,_,h=>by cases h
 | _::_,[],_,_,h=>by cases h
 | _::is,_::vs,_,_,h=>by rw [List.length_cons,List.length_cons,unpL_length (is:=is) (vs:=vs) h]
theorem ss_unp {v:Expr} {e:IE} {ts:List Expr} {is:List Nat} {n:Nat} {p pos:Pos} (hc:isComp v=false) (ht:isTup v=false) (hn:names2 nm ts is=true) (he:SE K sc nm v e):SS K T calls sc nm (.Assign [.Tuple ts n p] v pos) (.unp is e):=by
 intro k O hsc hnm ρ H s Q X S h
 rw [arm_exec_Assign]
 refine wpAny_bind (wpAny_standAt ?_)
 show wpAny _ _ (swapsWith v (some (.Tuple ts n p)) pos.line k.env >>= _) _ _ s
 rw [no_swap hc]
 refine wpAny_bind (wpAny_pure ?_)
 rw [if_neg Bool.false_ne_true]
 refine st_e O hsc hnm he S h fun v' av H' s' hv S' hq=>?_
 rw [no_swapT ht]
 refine wpAny_bind (wpAny_pure (wpAny_bind ?_))
 show wpAny _ _ (assign (.Tuple ts n p) k.env v') _ _ s'
 obtain⟨hhd,hq⟩:=hq
 obtain @⟨l,xs,hl,hq⟩:=hq
 refine hv.eRef ?_
 cases hu:unpL is xs ρ with
 | none=>rw [hu] at hq;exact hq.elim
 | some ρ' =>
  rw [hu] at hq
  refine St_tup S' hl fun arr nn ho hx e hz=>?_
  subst hnm
  have hn:N2 k.nm ts is:=some_of hn
  obtain⟨n1,n2⟩:=names2_plain (env:=k.env) hn
  have hlen:(assignEach ts k.env).length=arr.size:=by rw [n1,unpL_length hu,e]
  refine assign_Tuple_tuple (O.ok.hand hhd) ⟨_,ho,rfl,nn,rfl⟩ hlen n2 fun h' hk=>?_
  refine unp_stores O hn _ _ ρ ρ' _ hx hu (St_grow S' (tk:=s'.toks) fun b o e=>hk b o (Nat.ne_of_lt (Heap.lt_size e)) e) fun s2 S2=>wpAny_pure (rf_mk .next S2 hq)
theorem ss_ite {t:Expr} {t':IE} {a b:List Stmt} {a' b':ISs} {pos:Pos} (ht:SB K sc nm t t') (ha:SSs K T calls sc nm a a') (hb:SSs K T calls sc nm b b'):SS K T calls sc nm (.If t a b pos) (.ite t' a' b'):=by
 intro k O hsc hnm ρ H s Q X S h
 rw [arm_exec_If]
 have h:vE T k.hd (calls k.hd) t' ρ H (fun v H=>truthy v H fun r=>cnd r (vSs T calls a' k.hd ρ H Q X) (vSs T calls b' k.hd ρ H Q X)) (fun n H=>X n ρ H):=h
 rw [← O.t,← O.call] at h
 refine wpAny_bind (wpAny_standAt (wpAny_bind (wpAny_mono (ht k O.ok hsc hnm ρ H s _ _ (fun r H=>cnd r (vSs k.T calls a' k.hd ρ H Q X) (vSs k.T calls b' k.hd ρ H Q X)) S (fun v H h=>h) h) (fun c s2 ⟨H2,S2,h2⟩=>?_) fun zz zz e=>XE_S e)))
 cases c with
 | true=>rw [O.t] at h2;rw [if_pos rfl];exact ha k O hsc hnm _ _ _ _ _ S2 h2
 | false=>rw [O.t] at h2;rw [if_neg Bool.false_ne_true];exact hb k O hsc hnm _ _ _ _ _ S2 h2
theorem sss_nil:SSs K T calls sc nm [] .nil:=by
 intro k O hsc hnm ρ H s Q X S h
 exact wpAny_pure (rf_mk .next S h)
theorem sss_cons {st:Stmt} {r:List Stmt} {i:IS} {ir:ISs} (ha:SS K T calls sc nm st i) (hb:SSs K T calls sc nm r ir):SSs K T calls sc nm (st::r) (.cons i ir):=by
 intro k O hsc hnm ρ H s Q X S h
 show wpAny _ _ (do match ← exec st k.env with | .next=>execs r k.env | f=>pure f) _ _ s
 refine wpAny_bind (wpAny_mono (ha k O hsc hnm ρ H s _ X S h) (fun f s2 ⟨fl,ρ2,H2,hf,S2,h2⟩=>?_) fun zz zz e=>e)
 cases hf with
 | next=>exact hb k O hsc hnm _ _ _ _ _ S2 h2
 | brk=>exact wpAny_pure (rf_mk .brk S2 h2)
 | cont=>exact wpAny_pure (rf_mk .cont S2 h2)
 | ret hv=>exact wpAny_pure (rf_mk (.ret hv) S2 h2)
end
end Bm
namespace Bm
open PySem PySem.W PyProof.Rows PySem.SeqAt PySem.MeetsSeq
noncomputable def SU (K:Frag) (sc:List (Str×NameKind)) (nm:List String) (e:Expr) (ir:IE):Prop:=∀ (k:Kx),k.Ok K→k.env.scope.names=sc→k.nm=nm→∀ (ρ:List AV) (H:AHeap) (s:Shared) (Q X:EQ),
 k.St ρ H s→vE k.T k.hd k.call ir ρ H Q X→∀ (u:Value→Sem Unit) (Q':Shared→Prop),
  (∀ v av H2 s' p,VR v av→Q av H2→(k.withP p).St ρ H2 s'→wpAny (model k.c.prog k.c.w) k.A (u v) (fun zz s''=>∃ ρ',(k.withP p).St ρ' H2 s''∧∀ s3,k.St ρ' H2 s3→Q' s3) (k.XE ρ X) s') →
  wpAny (model k.c.prog k.c.w) k.A (evalThenUse e k.env u) (fun zz s'=>Q' s') (k.XE ρ X) s
section
variable {k:Kx} {ρ:List AV} {H:AHeap} {s:Shared} {Q:SQ} {X:SX} {E:Value→Shared→Prop} {A:Around} {K:Frag} {M:Model} {sc:List (Str×NameKind)} {nm:List String} {T:Tab} {calls:Bool→CallSem}
theorem s_compU {scope:Scope} {t:Str} {tp:Pos} {elt it:Expr} {pos:Pos} {e':IE} {i':IT} (hset:isSet it=false) (hit:ST K sc nm it i') (he:SE K (cscope sc scope.names) (t.toString::nm) elt e')
  (h1:scope.kind=.function) (h2:(cscope sc scope.names).lookup t=some .local∨(cscope sc scope.names).lookup t=some .cell) (h3:cscopeOk sc nm t scope.names=true) (h4:Str.ofString t.toString=t) :
  SU K sc nm (.ListComp elt [⟨.Name t tp,it,[],0⟩] scope pos) (.comp e' i'):=by
 intro k O hsc hnm ρ H s Q X S h u Q' hu
 have CO:CompOk k.env k.nm scope t:=by subst hsc;subst hnm;exact⟨h1,h2,h3,h4⟩
 show wpAny _ _ (do let _ ← comprehension (.ListComp elt [⟨.Name t tp,it,[],0⟩] scope pos) scope k.env _ (newList []) false (eval it k.env) (some u)) _ _ s
 refine wpAny_bind (wpAny_mono (comp_use hset hit he O hsc hnm CO (some u) (Q':=fun zz s'=>Q' s') S h fun D H1 ws s' C oC hK hD S'=>hu (.ref D) _ _ s' (C,oC) (.ref D) (hK D hD) S') (fun zz zz h=>wpAny_pure h) fun zz zz e=>e)
theorem s_compIfU {scope:Scope} {t:Str} {tp:Pos} {elt it q:Expr} {pos:Pos} {e' q':IE} {i':IT} (hset:isSet it=false) (hit:ST K sc nm it i') (he:SE K (cscope sc scope.names) (t.toString::nm) elt e') (hq:SB K (cscope sc scope.names) (t.toString::nm) q q')
  (h1:scope.kind=.function) (h2:(cscope sc scope.names).lookup t=some .local∨(cscope sc scope.names).lookup t=some .cell) (h3:cscopeOk sc nm t scope.names=true) (h4:Str.ofString t.toString=t) :
  SU K sc nm (.ListComp elt [⟨.Name t tp,it,[q],0⟩] scope pos) (.compIf e' i' q'):=by
 intro k O hsc hnm ρ H s Q X S h u Q' hu
 have CO:CompOk k.env k.nm scope t:=by subst hsc;subst hnm;exact⟨h1,h2,h3,h4⟩
 show wpAny _ _ (do let _ ← comprehension (.ListComp elt [⟨.Name t tp,it,[q],0⟩] scope pos) scope k.env _ (newList []) false (eval it k.env) (some u)) _ _ s
 refine wpAny_bind (wpAny_mono (compIf_use hset hit he hq O hsc hnm CO (some u) (Q':=fun zz s'=>Q' s') S h fun D H1 ws s' C oC hK hD S'=>hu (.ref D) _ _ s' (C,oC) (.ref D) (hK D hD) S') (fun zz zz h=>wpAny_pure h) fun zz zz e=>e)
structure RE (K:Frag) (sc:List (Str×NameKind)) (nm:List String) (t:Expr) (ir:IE):Prop where
 e:SE K sc nm t ir
 b:SB K sc nm t ir
 u:isComp t=true→SU K sc nm t ir
structure RL (K:Frag) (sc:List (Str×NameKind)) (nm:List String) (es:List Expr) (xs:IEs):Prop where
 l:SL K sc nm es xs
 p:es.all (fun e=>!isStar e)=true
structure RT (K:Frag) (sc:List (Str×NameKind)) (nm:List String) (e:Expr) (it:IT):Prop where
 t:ST K sc nm e it
 r:match it with | .range x y=>SR K sc nm e x y | .over _=>True
theorem RE.no {sc nm e ir} (a:SE K sc nm e ir) (b:SB K sc nm e ir) (c:isComp e=false):RE K sc nm e ir:=⟨a,b,fun h=>Bool.noConfusion (c.symm.trans h)⟩
theorem RE.pl {sc nm e ir} (a:SE K sc nm e ir) (b:∀ env whole,isTrue e env whole=(do let v ← whole;standAt e.pos;holding [v] (PySem.truthy v))) (c:isComp e=false):RE K sc nm e ir:=.no a (b_plain a b) c
theorem r_attr {v:Expr} {x:Str} {m:String} {e':IE} {pos:Pos} (h:x=Str.ofString m) (h2:bare v=false) (a:RE K sc nm v e'):RE K sc nm (.Attribute v x pos) (.attr e' m):=by
 subst h;exact .pl (s_attr h2 a.e) (fun zz zz=>rfl) rfl
theorem r_deck {a b:Expr} {x y:IE} {k1 k2:Str} {m1 m2:String} {n1 n2:Nat} {p1 p2 pos:Pos} (h:k1=Str.ofString m1) (h2:k2=Str.ofString m2) (ha:RE K sc nm a x) (hb:RE K sc nm b y) :
  RE K sc nm (.Dict [some (.Constant (.str k1) n1 p1),some (.Constant (.str k2) n2 p2)] [a,b] pos) (.deck m1 m2 x y):=by
 subst h;subst h2;exact .pl (s_deck ha.e hb.e) (fun zz zz=>rfl) rfl
theorem r_upto {v:Expr} {x:IE} {i:Int} {m:Nat} {kk:Nat} {p1 p2 pos:Pos} (h:i=(m:Int)) (a:RE K sc nm v x):RE K sc nm (.Subscript v (.Slice none (some (.Constant (.int i) kk p1)) none p2) pos) (.upto x m):=by
 subst h;exact .pl (s_upto a.e) (fun zz zz=>rfl) rfl
theorem r_key {v:Expr} {x:IE} {k:Str} {m:String} {n:Nat} {p pos:Pos} (h:k=Str.ofString m) (a:RE K sc nm v x):RE K sc nm (.Subscript v (.Constant (.str k) n p) pos) (.key x m):=by
 subst h;exact .pl (s_key a.e) (fun zz zz=>rfl) rfl
theorem r_meth {o:Expr} {x:Str} {m:String} {ap pos:Pos} {args:List Expr} {e':IE} {es:IEs} (hp:ap.endLine=pos.line) (h:x=Str.ofString m) (hb:bare o=false) (hl:args.length < 20) (a:RE K sc nm o e') (b:RL K sc nm args es) :
  RE K sc nm (.Call (.Attribute o x ap) args [] pos) (.meth e' m es):=by
 subst h;exact .pl (s_meth hp hb hl b.p a.e b.l) (fun zz zz=>rfl) rfl
theorem r_len {f:Str} {a:Expr} {x:IE} {fp pos:Pos} (hg:isG sc nm f=true) (h:f = "len") (hs:isStar a=false) (ha:RE K sc nm a x):RE K sc nm (.Call (.Name f fp) [a] [] pos) (.len x):=by
 subst h;exact .pl (s_len hg hs ha.e) (fun zz zz=>rfl) rfl
theorem r_abs {f:Str} {a:Expr} {x:IE} {fp pos:Pos} (hg:isG sc nm f=true) (h:f = "abs") (hs:isStar a=false) (ha:RE K sc nm a x):RE K sc nm (.Call (.Name f fp) [a] [] pos) (.abs x):=by
 subst h;exact .pl (s_abs hg hs ha.e) (fun zz zz=>rfl) rfl
theorem r_maxl {f:Str} {a:Expr} {x:IE} {fp pos:Pos} (hg:isG sc nm f=true) (h:f = "max") (hs:isStar a=false) (ha:RE K sc nm a x):RE K sc nm (.Call (.Name f fp) [a] [] pos) (.maxl x):=by
 subst h;exact .pl (s_maxl hg hs ha.e) (fun zz zz=>rfl) rfl
theorem r_copy {f:Str} {a:Expr} {x:IE} {fp pos:Pos} (hg:isG sc nm f=true) (h:f = "list") (hs:isStar a=false) (ha:RE K sc nm a x):RE K sc nm (.Call (.Name f fp) [a] [] pos) (.copy x):=by
 subst h;exact .pl (s_copy hg hs ha.e) (fun zz zz=>rfl) rfl
theorem r_listR {f:Str} {a:Expr} {x y:IE} {fp pos:Pos} (hg:isG sc nm f=true) (h:f = "list") (hs:isStar a=false) (ha:RT K sc nm a (.range x y)):RE K sc nm (.Call (.Name f fp) [a] [] pos) (.listR x y):=by
 subst h;exact .pl (s_listR hg hs ha.r) (fun zz zz=>rfl) rfl
theorem r_max2 {f:Str} {a b:Expr} {x y:IE} {fp pos:Pos} (hg:isG sc nm f=true) (h:f = "max") (hs:isStar a=false) (hs2:isStar b=false) (ha:RE K sc nm a x) (hb:RE K sc nm b y):RE K sc nm (.Call (.Name f fp) [a,b] [] pos) (.max2 x y):=by
 subst h;exact .pl (s_max2 hg hs hs2 ha.e hb.e) (fun zz zz=>rfl) rfl
theorem r_min2 {f:Str} {a b:Expr} {x y:IE} {fp pos:Pos} (hg:isG sc nm f=true) (h:f = "min") (hs:isStar a=false) (hs2:isStar b=false) (ha:RE K sc nm a x) (hb:RE K sc nm b y):RE K sc nm (.Call (.Name f fp) [a,b] [] pos) (.min2 x y):=by
 subst h;exact .pl (s_min2 hg hs hs2 ha.e hb.e) (fun zz zz=>rfl) rfl
theorem r_cmp {a b:Expr} {x y:IE} {op:CmpOp} {op':COp} {pos:Pos} (hop:copOf op=op') (hm:lastMarks [op] [b]=false) (ha:RE K sc nm a x) (hb:RE K sc nm b y):RE K sc nm (.Compare a [op] [b] pos) (.cmp op' x y) :=
 .no (s_cmp hop hm ha.e hb.e) (b_cmp hop hm ha.e hb.e) rfl
theorem r_cmp2 {a b d:Expr} {x y z:IE} {op1 op2:CmpOp} {o1 o2:COp} {pos:Pos} (hop1:copOf op1=o1) (hop2:copOf op2=o2) (hm:lastMarks [op1,op2] [b,d]=false) (ha:RE K sc nm a x) (hb:RE K sc nm b y) (hd:RE K sc nm d z) :
  RE K sc nm (.Compare a [op1,op2] [b,d] pos) (.cmp2 o1 o2 x y z):=.no (s_cmp2 hop1 hop2 hm ha.e hb.e hd.e) (b_cmp2 hop1 hop2 hm ha.e hb.e hd.e) rfl
theorem r_comp {scope:Scope} {t:Str} {tp:Pos} {elt it:Expr} {pos:Pos} {e':IE} {i':IT} (hset:isSet it=false) (hit:RT K sc nm it i') (he:RE K (cscope sc scope.names) (t.toString::nm) elt e')
  (h1:scope.kind=.function) (h2:(cscope sc scope.names).lookup t=some .local∨(cscope sc scope.names).lookup t=some .cell) (h3:cscopeOk sc nm t scope.names=true) (h4:Str.ofString t.toString=t) :
  RE K sc nm (.ListComp elt [⟨.Name t tp,it,[],0⟩] scope pos) (.comp e' i') :=
 have a:=s_comp hset hit.t he.e h1 h2 h3 h4
 ⟨a,b_plain a fun zz zz=>rfl,fun zz=>s_compU hset hit.t he.e h1 h2 h3 h4⟩
set_option maxHeartbeats 4000000 in
theorem r_compIf {scope:Scope} {t:Str} {tp:Pos} {elt it q:Expr} {pos:Pos} {e' q':IE} {i':IT} (hset:isSet it=false) (hit:RT K sc nm it i') (he:RE K (cscope sc scope.names) (t.toString::nm) elt e') (hq:RE K (cscope sc scope.names) (t.toString::nm) q q')
  (h1:scope.kind=.function) (h2:(cscope sc scope.names).lookup t=some .local∨(cscope sc scope.names).lookup t=some .cell) (h3:cscopeOk sc nm t scope.names=true) (h4:Str.ofString t.toString=t) :
  RE K sc nm (.ListComp elt [⟨.Name t tp,it,[q],0⟩] scope pos) (.compIf e' i' q') :=
 have a:=s_compIf hset hit.t he.e hq.b h1 h2 h3 h4
 ⟨a,b_plain a fun zz zz=>rfl,fun zz=>s_compIfU hset hit.t he.e hq.b h1 h2 h3 h4⟩
noncomputable def bo:Bool→BoolOp
 | true=>.And
 | false=>.Or
theorem r_bone {b:Bool} {e:Expr} {ir:IE} {pos:Pos} (a:RE K sc nm e ir):RE K sc nm (.BoolOp (bo b) [e] pos) ir:=by
 cases b with
 | true=>exact .no (fun k O hsc hnm ρ H s Q X S hv=>BoolOp_one (a.e k O hsc hnm ρ H s Q X S hv)) (b_one_and a.b) rfl
 | false=>exact .no (fun k O hsc hnm ρ H s Q X S hv=>BoolOp_one (a.e k O hsc hnm ρ H s Q X S hv)) (b_one_or a.b) rfl
theorem r_range1 {f:Str} {b:Expr} {y:IE} {fp pos:Pos} (hg:isG sc nm f=true) (h:f = "range") (hs2:isStar b=false) (hb:RE K sc nm b y):RT K sc nm (.Call (.Name f fp) [b] [] pos) (.range (.c (.int 0)) y):=by
 subst h
 have a:=s_range1 (fp:=fp) (pos:=pos) hg hs2 hb.e
 exact⟨t_range a,a⟩
theorem r_range2 {f:Str} {a b:Expr} {x y:IE} {fp pos:Pos} (hg:isG sc nm f=true) (h:f = "range") (hs:isStar a=false) (hs2:isStar b=false) (ha:RE K sc nm a x) (hb:RE K sc nm b y):RT K sc nm (.Call (.Name f fp) [a,b] [] pos) (.range x y):=by
 subst h
 have a:=s_range2 (fp:=fp) (pos:=pos) hg hs hs2 ha.e hb.e
 exact⟨t_range a,a⟩
theorem r_over {e:Expr} {x:IE} (a:RE K sc nm e x):RT K sc nm e (.over x):=⟨t_over a.e,trivial⟩
theorem r_cons {e:Expr} {r:List Expr} {x:IE} {xs:IEs} (hs:isStar e=false) (a:RE K sc nm e x) (b:RL K sc nm r xs):RL K sc nm (e::r) (.cons x xs) :=
 ⟨l_cons hs a.e b.l,by rw [List.all_cons,hs,b.p];rfl⟩
theorem r_not {a:Expr} {x:IE} {pos:Pos} (h:RE K sc nm a x):RE K sc nm (.UnaryOp .Not a pos) (.not x):=.no (s_not h.e) (b_not h.b) rfl
theorem r_ife {t a b:Expr} {x y z:IE} {pos:Pos} (ht:RE K sc nm t x) (ha:RE K sc nm a y) (hb:RE K sc nm b z):RE K sc nm (.IfExp t a b pos) (.ife x y z):=.no (s_ife ht.b ha.e hb.e) (b_ife ht.b ha.b hb.b) rfl
theorem r_and {e e2:Expr} {r:List Expr} {x y:IE} {pos:Pos} (a:RE K sc nm e x) (b:RE K sc nm (.BoolOp .And (e2::r) pos) y):RE K sc nm (.BoolOp .And (e::e2::r) pos) (.and x y):=.no (s_and a.e b.e) (b_and a.b b.b) rfl
theorem r_or {e e2:Expr} {r:List Expr} {x y:IE} {pos:Pos} (a:RE K sc nm e x) (b:RE K sc nm (.BoolOp .Or (e2::r) pos) y):RE K sc nm (.BoolOp .Or (e::e2::r) pos) (.or x y):=.no (s_or a.e b.e) (b_or a.b b.b) rfl
theorem r_pow {i k j:Int} {a b:Nat} {p p' pos:Pos} {op:Operator} (h:i=10) (h':op=.Pow) (h1:k=60∨k=80∨k=99) (h2:j=10 ^ k.toNat):RE K sc nm (.BinOp (.Constant (.int i) a p) op (.Constant (.int k) b p') pos) (.c (.int j)):=by
 subst h;subst h';exact .pl (s_pow h1 h2) (fun zz zz=>rfl) rfl
structure Mks (K:Frag) where
 E:(sc:List (Str×NameKind))→(nm:List String)→(e:Expr)→(ir:IE)→Option (PLift (RE K sc nm e ir))
 B:(sc:List (Str×NameKind))→(nm:List String)→(b:Bool)→(es:List Expr)→(ir:IE)→Option (PLift (∀ pos,RE K sc nm (.BoolOp (bo b) es pos) ir))
 L:(sc:List (Str×NameKind))→(nm:List String)→(es:List Expr)→(xs:IEs)→Option (PLift (RL K sc nm es xs))
 T:(sc:List (Str×NameKind))→(nm:List String)→(e:Expr)→(it:IT)→Option (PLift (RT K sc nm e it))
noncomputable def mks (K:Frag) (n:Nat):Mks K:=Nat.rec ⟨fun zz zz zz zz=>none,fun zz zz zz zz zz=>none,fun zz zz zz zz=>none,fun zz zz zz zz=>none⟩ (fun zz m=>{
 E:=fun sc nm e ir=>match e with
  | .Constant c _ _=>(match ir with
   | .c d=>(match c,d with
    | .none,.none=>ok (.pl s_none (fun zz zz=>rfl) rfl)
    | .bool b,.bool b'=>gp (b=b') fun h=>ok (h ▸ .pl s_bool (fun zz zz=>rfl) rfl)
    | .int i,.int j=>gp (i=j) fun h=>ok (h ▸ .pl s_int (fun zz zz=>rfl) rfl)
    | _,_=>none)
   | _=>none)
  | .Name x _=>(match ir with
   | .loc i=>gp (x≠"__debug__") fun h1=>gp (x≠"__classdict__") fun h2=>gp (idx x nm=some i) fun h3=>gd (okKind (sc.lookup x)) fun h4=>ok (.pl (s_loc h1 h2 h3 h4) (fun zz zz=>rfl) rfl)
   | .c (.int j)=>gd (isG sc nm x) fun h1=>gp (gint x gInts=some j) fun h2=>ok (.pl (s_gint h1 h2) (fun zz zz=>rfl) rfl)
   | _=>none)
  | .BinOp a op b _=>(match ir with
   | .c (.int j)=>(match a,b with
    | .Constant (.int i) _ _,.Constant (.int k) _ _=>gp (i=10) fun h=>gp (op=.Pow) fun h'=>gp (k=60∨k=80∨k=99) fun h1=>gp (j=10 ^ k.toNat) fun h2=>ok (r_pow h h' h1 h2)
    | _,_=>none)
   | .bin op' x y=>gp (bopOf op=some op') fun h=>bd (m.E sc nm a x) fun ha=>bd (m.E sc nm b y) fun hb=>ok (.pl (s_bin h ha.e hb.e) (fun zz zz=>rfl) rfl)
   | _=>none)
  | .UnaryOp op a _=>(match op,ir with
   | .USub,.neg x=>bd (m.E sc nm a x) fun ha=>ok (.pl (s_neg ha.e) (fun zz zz=>rfl) rfl)
   | .Not,.not x=>bd (m.E sc nm a x) fun ha=>ok (r_not ha)
   | _,_=>none)
  | .Compare l ops rs _=>(match ir with
   | .cmp op' x y=>(match ops,rs with
    | [op],[r]=>gp (copOf op=op') fun h=>gn (lastMarks [op] [r]) fun h2=>bd (m.E sc nm l x) fun ha=>bd (m.E sc nm r y) fun hb=>ok (r_cmp h h2 ha hb)
    | _,_=>none)
   | .cmp2 o1 o2 x y z=>(match ops,rs with
    | [op1,op2],[r,q]=>gp (copOf op1=o1) fun h=>gp (copOf op2=o2) fun h2=>gn (lastMarks [op1,op2] [r,q]) fun h3=>bd (m.E sc nm l x) fun ha=>bd (m.E sc nm r y) fun hb=>bd (m.E sc nm q z) fun hc=>ok (r_cmp2 h h2 h3 ha hb hc)
    | _,_=>none)
   | _=>none)
  | .BoolOp op vs pos=>(match op with
   | .And=>bd (m.B sc nm true vs ir) fun h=>ok (h pos)
   | .Or=>bd (m.B sc nm false vs ir) fun h=>ok (h pos))
  | .IfExp t a b _=>(match ir with
   | .ife t' x y=>bd (m.E sc nm t t') fun ht=>bd (m.E sc nm a x) fun ha=>bd (m.E sc nm b y) fun hb=>ok (r_ife ht ha hb)
   | _=>none)
  | .List es _=>(match ir with
   | .list xs=>gp (es.length < 20) fun h=>bd (m.L sc nm es xs) fun hl=>ok (.pl (s_list h hl.l) (fun zz zz=>rfl) rfl)
   | _=>none)
  | .Tuple es _ _=>(match ir with
   | .tup xs=>gp (es.length < 20) fun h=>bd (m.L sc nm es xs) fun hl=>ok (.pl (s_tup h hl.l) (fun zz zz=>rfl) rfl)
   | _=>none)
  | .Dict ks vs _=>(match ir with
   | .dict0=>(match ks,vs with
    | [],[]=>ok (.pl s_dict0 (fun zz zz=>rfl) rfl)
    | _,_=>none)
   | .deck m1 m2 x y=>(match ks,vs with
    | [some (.Constant (.str s1) _ _),some (.Constant (.str s2) _ _)],[a,b]=>gp (s1=Str.ofString m1) fun h1=>gp (s2=Str.ofString m2) fun h2=>bd (m.E sc nm a x) fun ha=>bd (m.E sc nm b y) fun hb=>ok (r_deck h1 h2 ha hb)
    | _,_=>none)
   | _=>none)
  | .Attribute v x _=>(match ir with
   | .attr e' a=>gp (x=Str.ofString a) fun h1=>gn (bare v) fun h2=>bd (m.E sc nm v e') fun ha=>ok (r_attr h1 h2 ha)
   | _=>none)
  | .Subscript v i _=>(match ir with
   | .upto e' u=>(match i with
    | .Slice none (some (.Constant (.int k) _ _)) none _=>gp (k=(u:Int)) fun h=>bd (m.E sc nm v e') fun ha=>ok (r_upto h ha)
    | _=>none)
   | .all e'=>(match i with
    | .Slice none none none _=>bd (m.E sc nm v e') fun ha=>ok (.pl (s_all ha.e) (fun zz zz=>rfl) rfl)
    | _=>none)
   | .rev e'=>(match i with
    | .Slice none none (some (.UnaryOp .USub (.Constant (.int 1) _ _) _)) _=>bd (m.E sc nm v e') fun ha=>ok (.pl (s_rev ha.e) (fun zz zz=>rfl) rfl)
    | _=>none)
   | .key e' a=>(match i with
    | .Constant (.str k) _ _=>gp (k=Str.ofString a) fun h=>bd (m.E sc nm v e') fun ha=>ok (r_key h ha)
    | _=>none)
   | .idx e' j=>bd (m.E sc nm v e') fun ha=>bd (m.E sc nm i j) fun hb=>ok (.pl (s_idx ha.e hb.e) (fun zz zz=>rfl) rfl)
   | _=>none)
  | .Call g args [] cp=>(match ir with
   | .meth e' a es=>(match g with
    | .Attribute o x ap=>gp (ap.endLine=cp.line) fun h1=>gp (x=Str.ofString a) fun h2=>gn (bare o) fun h3=>gp (args.length < 20) fun h4=>bd (m.E sc nm o e') fun ha=>bd (m.L sc nm args es) fun hb=>ok (r_meth h1 h2 h3 h4 ha hb)
    | _=>none)
   | .call a es=>(match g with
    | .Name f _=>gd (isG sc nm f) fun h1=>gp (gnat f gFns=some a) fun h2=>bd (m.L sc nm args es) fun hl=>ok (.pl (s_call h1 h2 hl.p hl.l) (fun zz zz=>rfl) rfl)
    | _=>none)
   | .new a es=>(match g with
    | .Name f _=>gd (isG sc nm f) fun h1=>gp (gnat f gCls=some a) fun h2=>bd (m.L sc nm args es) fun hl=>ok (.pl (s_new h1 h2 hl.p hl.l) (fun zz zz=>rfl) rfl)
    | _=>none)
   | .len x=>(match g,args with
    | .Name f _,[a]=>gd (isG sc nm f) fun h1=>gp (f = "len") fun h2=>gn (isStar a) fun h3=>bd (m.E sc nm a x) fun ha=>ok (r_len h1 h2 h3 ha)
    | _,_=>none)
   | .maxl x=>(match g,args with
    | .Name f _,[a]=>gd (isG sc nm f) fun h1=>gp (f = "max") fun h2=>gn (isStar a) fun h3=>bd (m.E sc nm a x) fun ha=>ok (r_maxl h1 h2 h3 ha)
    | _,_=>none)
   | .abs x=>(match g,args with
    | .Name f _,[a]=>gd (isG sc nm f) fun h1=>gp (f = "abs") fun h2=>gn (isStar a) fun h3=>bd (m.E sc nm a x) fun ha=>ok (r_abs h1 h2 h3 ha)
    | _,_=>none)
   | .max2 x y=>(match g,args with
    | .Name f _,[a,b]=>gd (isG sc nm f) fun h1=>gp (f = "max") fun h2=>gn (isStar a) fun h3=>gn (isStar b) fun h4=>bd (m.E sc nm a x) fun ha=>bd (m.E sc nm b y) fun hb=>ok (r_max2 h1 h2 h3 h4 ha hb)
    | _,_=>none)
   | .min2 x y=>(match g,args with
    | .Name f _,[a,b]=>gd (isG sc nm f) fun h1=>gp (f = "min") fun h2=>gn (isStar a) fun h3=>gn (isStar b) fun h4=>bd (m.E sc nm a x) fun ha=>bd (m.E sc nm b y) fun hb=>ok (r_min2 h1 h2 h3 h4 ha hb)
    | _,_=>none)
   | .copy x=>(match g,args with
    | .Name f _,[a]=>gd (isG sc nm f) fun h1=>gp (f = "list") fun h2=>gn (isStar a) fun h3=>bd (m.E sc nm a x) fun ha=>ok (r_copy h1 h2 h3 ha)
    | _,_=>none)
   | .listR x y=>(match g,args with
    | .Name f _,[a]=>gd (isG sc nm f) fun h1=>gp (f = "list") fun h2=>gn (isStar a) fun h3=>bd (m.T sc nm a (.range x y)) fun ha=>ok (r_listR h1 h2 h3 ha)
    | _,_=>none)
   | _=>none)
  | .ListComp elt gs scope _=>(match gs with
   | [⟨.Name t _,it,qs,0⟩]=>gp (scope.kind=.function) fun h1=>gp ((cscope sc scope.names).lookup t=some .local∨(cscope sc scope.names).lookup t=some .cell) fun h2=>gd (cscopeOk sc nm t scope.names) fun h3=>gn (isSet it) fun h4=>gp (Str.ofString t.toString=t) fun h5=>(match ir with
    | .comp e' i'=>(match qs with
     | []=>bd (m.T sc nm it i') fun ht=>bd (m.E (cscope sc scope.names) (t.toString::nm) elt e') fun he=>ok (r_comp h4 ht he h1 h2 h3 h5)
     | _=>none)
    | .compIf e' i' q'=>(match qs with
     | [q]=>bd (m.T sc nm it i') fun ht=>bd (m.E (cscope sc scope.names) (t.toString::nm) elt e') fun he=>bd (m.E (cscope sc scope.names) (t.toString::nm) q q') fun hq=>ok (r_compIf h4 ht he hq h1 h2 h3 h5)
     | _=>none)
    | _=>none)
   | _=>none)
  | _=>none
 B:=fun sc nm b es ir=>match es with
  | []=>none
  | e::r=>(match r with
   | []=>bd (m.E sc nm e ir) fun a=>ok fun zz=>r_bone a
   | _::_=>(match b,ir with
    | true,.and x y=>bd (m.E sc nm e x) fun ha=>bd (m.B sc nm true _ y) fun hb=>ok fun pos=>r_and ha (hb pos)
    | false,.or x y=>bd (m.E sc nm e x) fun ha=>bd (m.B sc nm false _ y) fun hb=>ok fun pos=>r_or ha (hb pos)
    | _,_=>none))
 L:=fun sc nm es xs=>match es,xs with
  | [],.nil=>ok ⟨l_nil,rfl⟩
  | e::r,.cons x y=>gn (isStar e) fun h=>bd (m.E sc nm e x) fun ha=>bd (m.L sc nm r y) fun hb=>ok (r_cons h ha hb)
  | _,_=>none
 T:=fun sc nm e it=>match it with
  | .range x y=>(match e with
   | .Call (.Name f _) args kws _=>(match kws,args with
    | [],[b]=>(match x with
     | .c (.int i)=>gp (i=0) fun h=>gd (isG sc nm f) fun h1=>gp (f = "range") fun h2=>gn (isStar b) fun h3=>bd (m.E sc nm b y) fun hb=>ok (by subst h;exact r_range1 h1 h2 h3 hb)
     | _=>none)
    | [],[a,b]=>gd (isG sc nm f) fun h1=>gp (f = "range") fun h2=>gn (isStar a) fun h3=>gn (isStar b) fun h4=>bd (m.E sc nm a x) fun ha=>bd (m.E sc nm b y) fun hb=>ok (r_range2 h1 h2 h3 h4 ha hb)
    | _,_=>none)
   | _=>none)
  | .over x=>bd (m.E sc nm e x) fun ha=>ok (r_over ha) }) n
theorem comp_swap {v:Expr} {x:Str} {p:Pos} {n:Nat} {env:Env} (h:isComp v=true):∃ b,swapsWith v (some (.Name x p)) n env=pure b:=by
 cases v <;> first | exact⟨_,rfl⟩ | (cases h)
theorem ss_asgC {v:Expr} {e:IE} {x:Str} {i:Nat} {p pos:Pos} (hi:idx x nm=some i) (r:RE K sc nm v e):SS K T calls sc nm (.Assign [.Name x p] v pos) (.asg i e):=by
 cases hc:isComp v with
 | false=>exact ss_asg hc hi r.e
 | true =>
  intro k O hsc hnm ρ H s Q X S h
  have eT:=O.t
  subst eT
  rw [arm_exec_Assign]
  refine wpAny_bind (wpAny_standAt ?_)
  show wpAny _ _ (swapsWith v (some (.Name x p)) pos.line k.env >>= _) _ _ s
  obtain⟨b,hb⟩:=comp_swap (x:=x) (p:=p) (n:=pos.line) (env:=k.env) hc
  rw [hb]
  refine wpAny_bind (wpAny_pure ?_)
  cases b with
  | false =>
   rw [if_neg Bool.false_ne_true]
   refine st_e O hsc hnm r.e S h fun v' av H' s' hv S' hq=>?_
   rw [no_swapN]
   refine wpAny_bind (wpAny_pure (wpAny_bind ?_))
   subst hnm
   exact p_assign hi (mem_ws O hi) hv S' fun s2 S2=>wpAny_pure (rf_mk .next S2 hq)
  | true =>
   rw [if_pos rfl]
   have h:vE k.T k.hd (calls k.hd) _ ρ H _ _:=h
   rw [← O.call] at h
   refine wpAny_bind (wpAny_mono (r.u hc k O.ok hsc hnm ρ H s _ _ S h _ (fun s'=>k.RF Q .next s') fun v' av H2 s' p' hv hq S'=>?_) (fun zz s' hq=>wpAny_pure hq) fun zz zz e=>XE_S e)
   show wpAny _ _ (assign (.Name x p) k.env v') _ _ s'
   subst hnm
   exact p_assign (k:=k.withP p') hi (mem_ws O hi) hv S' fun s2 S2=>⟨_,S2,fun s3 S3=>rf_mk .next S3 hq⟩
end
end Bm
namespace Bm
open PySem PySem.W PyProof.Rows PySem.SeqAt PySem.MeetsSeq
noncomputable def Mv (fr:List Env) (ex:Nat→Prop) (h h':Heap):Prop:=∀ b o,¬ ex b→h.get? b=some o→h'.get? b=some o∨((∃ x∈fr,x.frame=some b)∧∃ sl,h'.get? b=some { o with slots:=sl })
section
variable {k:Kx} {ρ:List AV} {H:AHeap} {s:Shared} {Q:SQ} {X:SX} {E:Value→Shared→Prop} {A:Around} {K:Frag} {M:Model} {sc:List (Str×NameKind)} {nm:List String} {T:Tab} {calls:Bool→CallSem}
theorem StC.mv {c:Cx} {G G':Nat→Kd} {fr:List Env} {P:List (Addr×Obj)} {ex:Nat→Prop} {h':Heap} {tk:Nat} (S:StC c G fr P H s) (hm:Mv fr ex s.heap h') (hx:∀ b,ex b→G b=.exc∨G b=.free) (hG:∀ b,G b≠.free→G' b=G b)
  (hN:∀ b,G' b≠.free→(G b=.free∨ex b)→∃ o,h'.get? b=some o):StC c G' fr P H { s with heap:=h',toks:=tk }:=by
 have nex:∀ b,(G b≠.exc)→(G b≠.free)→¬ ex b:=fun b h1 h2 q=>(hx b q).elim h1 h2
 have frG:∀ x∈fr,∀ b,x.frame=some b→G b=.prot∨G b=.var:=fun x hx b e=>by
  obtain⟨_,L,o,h2,h3,_⟩:=S.frs x hx
  rw [e] at h2;cases h2;exact h3
 have same:∀ b o,G b≠.exc→G b≠.free→G b≠.prot→G b≠.var→s.heap.get? b=some o→h'.get? b=some o:=fun b o h1 h2 h3 h4 e=>by
  rcases hm b o (nex b h1 h2) e with q | ⟨⟨x,hx,q⟩,_⟩
  ·exact q
  ·rcases frG x hx b q with z | z
   ·exact absurd z h3
   ·exact absurd z h4
 refine⟨fun b o e=>?_,fun a ha=>?_,fun a ao e=>?_,fun p hp=>?_,fun x hx'=>?_,S.gens,S.drawn,S.os⟩
 ·have q:=S.keep b o e
  have n:∀ z,z≠.base→G b≠z:=fun z hz w=>hz (by rw [← w,q.1])
  exact⟨(hG b (n _ (fun q=>nomatch q))).trans q.1,same b o (n _ (fun q=>nomatch q)) (n _ (fun q=>nomatch q)) (n _ (fun q=>nomatch q)) (n _ (fun q=>nomatch q)) q.2⟩
 ·by_cases q:G a=.free∨ex a
  ·exact hN a ha q
  ·have n:G a≠.free:=fun z=>q (.inl z)
   obtain⟨o,ho⟩:=S.ex a n
   rcases hm a o (fun z=>q (.inr z)) ho with z | ⟨_,sl,z⟩
   ·exact⟨_,z⟩
   ·exact⟨_,z⟩
 ·have q:=S.hv a ao e
  have n:∀ z,z≠.obj→z≠.base→G a≠z:=fun z hz hz2 w=>kd_ne hz hz2 (q.1.symm.trans w)
  refine⟨(hG a (n _ (fun q=>nomatch q) (fun q=>nomatch q))).trans q.1,q.2.keep (fun b o hb ho=>?_) fun b hb=>(hG b (by rw [hb];exact fun q=>nomatch q)).trans hb⟩
  rcases hb with rfl | hb
  ·exact same b o (n _ (fun q=>nomatch q) (fun q=>nomatch q)) (n _ (fun q=>nomatch q) (fun q=>nomatch q)) (n _ (fun q=>nomatch q) (fun q=>nomatch q)) (n _ (fun q=>nomatch q) (fun q=>nomatch q)) ho
  ·exact same b o (by rw [hb];exact fun q=>nomatch q) (by rw [hb];exact fun q=>nomatch q) (by rw [hb];exact fun q=>nomatch q) (by rw [hb];exact fun q=>nomatch q) ho
 ·have q:=S.pv p hp
  have n:∀ z,z≠.prot→G p.1≠z:=fun z hz w=>hz (by rw [← w,q.1])
  refine⟨(hG _ (n _ (fun q=>nomatch q))).trans q.1,?_⟩
  have nx:=nex p.1 (n _ (fun q=>nomatch q)) (n _ (fun q=>nomatch q))
  rcases q.2 with z | ⟨⟨z1,z2⟩,sl,z⟩
  ·rcases hm p.1 p.2 nx z with w | ⟨⟨x,hx',w1⟩,sl,w2⟩
   ·exact .inl w
   ·obtain⟨_,L,o,f2,_,f4,f5⟩:=S.frs x hx'
    rw [w1] at f2;cases f2
    rw [z] at f4;cases f4
    exact .inr ⟨⟨⟨x,hx',w1⟩,f5⟩,sl,w2⟩
  ·rcases hm p.1 _ nx z with w | ⟨_,sl',w2⟩
   ·exact .inr ⟨⟨z1,z2⟩,sl,w⟩
   ·exact .inr ⟨⟨z1,z2⟩,sl',w2⟩
 ·obtain⟨h1,L,o,h2,h3,h4,h5⟩:=S.frs x hx'
  have hf:G L≠.exc∧G L≠.free:=by rcases h3 with z | z <;> rw [z] <;> exact⟨(fun q=>nomatch q),(fun q=>nomatch q)⟩
  have hg:G' L=.prot∨G' L=.var:=by rw [hG L hf.2];exact h3
  rcases hm L o (nex L hf.1 hf.2) h4 with w | ⟨_,sl,w⟩
  ·exact⟨h1,L,o,h2,hg,w,h5⟩
  ·exact⟨h1,L,_,h2,hg,w,h5⟩
theorem Vr.mv {G G':Nat→Kd} {fr:List Env} {P:List (Addr×Obj)} {env:Env} {nm ws:List String} {h h':Heap} {ex:Nat→Prop} (V:Vr G P env nm ws ρ h) (hm:Mv fr ex h h') (hx:∀ b,ex b→G b=.exc∨G b=.free) (hG:∀ b,G b≠.free→G' b=G b) (hG':∀ b,G' b=.var→G b=.var) :
  Vr G' P env nm ws ρ h':=by
 have nex:∀ b,G b=.var→¬ ex b:=fun b e q=>by rcases hx b q with z | z <;> rw [e] at z <;> cases z
 have g:∀ a,G a=.var→G' a=.var:=fun a e=>(hG a (by rw [e];exact fun q=>nomatch q)).trans e
 have ns':∀ m,h.Ns env.locals m→h'.Ns env.locals m:=fun m ⟨o,es,ep,ho,hd,r⟩=>by
  rcases hm _ o (nex _ V.loc) ho with w | ⟨_,sl,w⟩
  ·exact⟨o,es,ep,w,hd,r⟩
  ·exact⟨_,es,ep,w,hd,r⟩
 have cell':∀ ca v,G ca=.var→h.IsCell ca v→h'.IsCell ca v:=fun ca v q ⟨o,ho,hd⟩=>by
  rcases hm _ o (nex _ q) ho with w | ⟨_,sl,w⟩
  ·exact⟨o,w,hd⟩
  ·exact⟨_,w,hd⟩
 refine⟨V.fn,V.gl,V.bi,g _ V.loc,V.ns.imp ns',fun x i e hk n=>?_,fun x hx=>?_,fun x ca e q=>?_,V.inj,V.len,fun x ca e=>(V.inP x ca e).imp (g _) id,V.has⟩
 ·obtain⟨v,hr,hv⟩:=V.reads x i e hk n
  refine⟨v,?_,hv⟩
  rcases hr with ⟨h1,m,h2,h3⟩ | ⟨ca,h1,h2,⟨h3,h4⟩ | h3⟩
  ·exact .inl ⟨h1,m,ns' m h2,h3⟩
  ·exact .inr ⟨ca,h1,h2,.inl ⟨g _ h3,cell' _ _ h3 h4⟩⟩
  ·exact .inr ⟨ca,h1,h2,.inr h3⟩
 ·rcases V.stores x hx with h1 | ⟨h1,ca,h2,h3⟩
  ·exact .inl h1
  ·exact .inr ⟨h1,ca,h2,g _ h3⟩
 ·obtain⟨v₀,hv⟩:=V.cells x ca e (hG' _ q)
  exact⟨v₀,cell' _ _ (hG' _ q) hv⟩
theorem StC.funFrames {c:Cx} {G:Nat→Kd} {P:List (Addr×Obj)}:∀ {fr:List Env},StC c G fr P H s→s.heap.FunFrames c.base fr
 | [],_=>trivial
 | x::r,S=>by
  obtain⟨h1,L,o,h2,h3,h4,es,n,h5⟩:=S.frs x (.head _)
  refine⟨h1,⟨L,o,h2,?_,h4,fun vs q=>by rw [h5] at q;cases q⟩,StC.funFrames (fr:=r) (P:=[]) ⟨S.keep,S.ex,S.hv,(fun p hp=>nomatch hp),fun e he=>S.frs e (.tail _ he),S.gens,S.drawn,S.os⟩⟩
  cases hb:c.base.get? L with
  | none=>rfl
  | some o'=>have:=(S.keep L o' hb).1;rcases h3 with z | z <;> rw [this] at z <;> cases z
theorem mv_frame {fr:List Env} {ex:Nat→Prop} {h h' h'':Heap} (m1:Mv fr ex h h') (m2:Mv fr ex h' h''):Mv fr ex h h'':=fun b o hx e=>by
 rcases m1 b o hx e with w | ⟨f,sl,w⟩
 ·exact m2 b o hx w
 ·rcases m2 b _ hx w with z | ⟨_,sl',z⟩
  ·exact .inr ⟨f,sl,z⟩
  ·exact .inr ⟨f,sl',z⟩
theorem p_entry {c:Cx} {G:Nat→Kd} {P:List (Addr×Obj)} {env:Env} {outer:List Env} {L ea:Nat} {oe:Obj} {vs:Array Value} {head:Value} {hadNext:Bool} {Q':Unit→Shared→Prop}
  (S:StC c G (env::outer) P H s) (hfr:A.frames=some (env::outer)) (hf:env.frame=some L) (ge:G ea=.exc) (he:s.heap.get? ea=some oe) (hd:oe.data=.fields vs) (hsz:1 < vs.size)
  (h:∀ h' T oT ts,Mv (env::outer) (fun b=>b=ea∨b=T) s.heap h'→s.heap.get? T=none→T≠ea→s.heap.objs.size≤T→h'.get? ea=some (Obj.mapFields (·.setIfInBounds 1 (Value.ref T)) oe)→h'.get? T=some oT→oT.data=.fields ts→ts[3]? = some (rawInt L)→Q' () { s with heap:=h' }) :
  wpAny M A (do let a ← frameOf env;let pl ← entryPlaceOf L hadNext;let b ← EntryCells.newEntry head a .none (rawInt L) .none pl;setField (.ref ea) 1 b) Q' E s:=by
 have hl:=S.funFrames
 have frs:∀ b∈(env::outer).filterMap (·.frame),∃ x∈env::outer,x.frame=some b:=fun b hb=>by
  obtain⟨x,hx,e⟩:=List.mem_filterMap.mp hb;exact⟨x,hx,e⟩
 have hene:ea∉(env::outer).filterMap (·.frame):=fun hm=>by
  obtain⟨_,o,ho,hnf⟩:=hl.mem hm
  rw [he] at ho;injection ho with ho;subst ho;exact hnf vs hd
 refine wpAny_bind (wpAny_frameOf_fun hfr hl hf fun h₁ hs₁=>?_)
 refine wpAny_bind (wpAny_entryPlaceOf fun pl hpl=>?_)
 unfold EntryCells.newEntry newFields
 refine wpAny_bind (wpAny_newObj_type ?_ (hpl.sizeOk5 _ _ _ _ _))
 have he₁:h₁.get? ea=some oe:=(hs₁.2.1 ea hene).trans he
 have he₂:=Heap.get?_push_of_some (h:=h₁) { cls:=.type "traceback",dict:=none,data:=.fields ([head,.ref L,.none,rawInt L,.none]++(if pl.isEmpty then List.replicate 6 Value.none else pl)).toArray } he₁
 have hTe:h₁.objs.size≠ea:=Nat.ne_of_gt (Heap.lt_size he₁)
 have hd₃:=Obj.data_mapFields hd (·.setIfInBounds 1 (Value.ref h₁.objs.size))
 have he₃:=Heap.get?_update_self (Obj.mapFields (·.setIfInBounds 1 (Value.ref h₁.objs.size))) he₂ (Obj.isFreed_of_fields hd₃)
 have hT₃:=(Heap.get?_update_other (h₁.push { cls:=.type "traceback",dict:=none,data:=.fields ([head,.ref L,.none,rawInt L,.none]++(if pl.isEmpty then List.replicate 6 Value.none else pl)).toArray })
  (Obj.mapFields (·.setIfInBounds 1 (Value.ref h₁.objs.size))) (Ne.symm hTe)).trans (Heap.get?_push_size h₁ rfl)
 refine wpAny_setField he₂ hd hsz (h _ h₁.objs.size _ _ ?_ ?_ hTe ?_ he₃ hT₃ rfl ?_)
 ·intro b o hx hb
  have hbe:b≠ea:=fun q=>hx (.inl q)
  have up:∀ o',h₁.get? b=some o'→((h₁.push { cls:=.type "traceback",dict:=none,data:=.fields ([head,.ref L,.none,rawInt L,.none]++(if pl.isEmpty then List.replicate 6 Value.none else pl)).toArray }).update ea (Obj.mapFields (·.setIfInBounds 1 (Value.ref h₁.objs.size)))).get? b=some o':=fun o' e=>by
   rw [Heap.get?_update_other _ _ (Ne.symm hbe)]
   exact Heap.get?_push_of_some _ e
  by_cases q:b∈(env::outer).filterMap (·.frame)
  ·obtain⟨sl,e⟩:=hs₁.2.2 b o hb
   exact .inr ⟨frs b q,sl,up _ e⟩
  ·exact .inl (up o ((hs₁.2.1 b q).trans hb))
 ·exact Heap.get?_none_of_le (by rw [hs₁.1];exact Nat.le_refl _)
 ·rw [hs₁.1];exact Nat.le_refl _
 ·first | (simp;done) | (rcases hpl with rfl | ⟨_,_,_,_,_,_,_,rfl⟩ <;> simp)
theorem dict_mapFields (o:Obj) (f):(Obj.mapFields f o).dict=o.dict:=by
 obtain⟨c,d,dt,sl⟩:=o;cases dt <;> rfl
theorem mv_same {c:Cx} {G:Nat→Kd} {fr:List Env} {P:List (Addr×Obj)} {ex:Nat→Prop} {h':Heap} (S:StC c G fr P H s) (hm:Mv fr ex s.heap h') {b:Nat} {o:Obj} (hx:¬ ex b) (h1:G b≠.prot) (h2:G b≠.var) (e:s.heap.get? b=some o):h'.get? b=some o:=by
 rcases hm b o hx e with w | ⟨⟨x,hx',q⟩,_⟩
 ·exact w
 ·obtain⟨_,L,o',f2,f3,_⟩:=S.frs x hx'
  rw [q] at f2;cases f2
  rcases f3 with z | z
  ·exact absurd z h1
  ·exact absurd z h2
inductive Kx.Aw (k:Kx) (ρ:List AV) (H:AHeap) (ea:Nat) (n:AV) (m:TbM) (s:Shared):Prop
 | mk (G:Nat→Kd) (S:StC k.c G k.fr k.P H s) (V:Vr G k.P k.env k.nm k.ws ρ s.heap) (F:Fly G s.heap ea n m)
theorem aw_T {ea T:Nat} {n:AV} {m:TbM} {G:Nat→Kd} (S:StC k.c G k.fr k.P H s) (V:Vr G k.P k.env k.nm k.ws ρ s.heap) (F:Fly G s.heap ea n m) {oe oT:Obj} {vs ts:Array Value} {fl:Value} {m':TbM}
  (he:s.heap.get? ea=some oe) (hd:oe.data=.fields vs) (h1:vs[1]? = some (.ref T)) (gT:G T=.exc) (hTe:T≠ea) (hT:s.heap.get? T=some oT) (hdT:oT.data=.fields ts) (hsz:3 < ts.size)
  (hm:∀ (oT':Obj) (ts':Array Value),oT'.data=.fields ts'→ts'[3]? = some fl→∀ h',h'.get? T=some oT'→h'.get? ea=some oe→Tb G h' ea vs m') :
  k.Aw ρ H ea n m' { s with heap:=s.heap.update T (Obj.mapFields (·.setIfInBounds 3 fl)) }:=by
 have other:∀ b,b≠T→(s.heap.update T (Obj.mapFields (·.setIfInBounds 3 fl))).get? b=s.heap.get? b:=fun b hb=>Heap.get?_update_other _ _ (Ne.symm hb)
 have hd':=Obj.data_mapFields hdT (·.setIfInBounds 3 fl)
 have self:=Heap.get?_update_self (Obj.mapFields (·.setIfInBounds 3 fl)) hT (Obj.isFreed_of_fields hd')
 have mv:Mv k.fr (fun b=>b=T) s.heap (s.heap.update T (Obj.mapFields (·.setIfInBounds 3 fl))):=fun b o hb e=>.inl ((other b hb).trans e)
 obtain⟨f1,f2,oe',vs',dx,md,f3,f4,f5,f6,f7,_,f9,⟨od,es,ep,f10,fr⟩,f11⟩:=F
 rw [he] at f3;cases f3
 rw [hd] at f6;cases f6
 refine⟨G,S.mv mv (fun b e=>.inl (by rw [e];exact gT)) (fun zz zz=>rfl) (fun b hb h=>?_),V.mv mv (fun b e=>.inl (by rw [e];exact gT)) (fun zz zz=>rfl) (fun zz e=>e),f1,f2,oe,vs,dx,md,(other ea (Ne.symm hTe)).trans he,f4,f5,hd,f7,hm _ _ hd' (by simp [hsz]) _ self ((other ea (Ne.symm hTe)).trans he),f9,⟨od,es,ep,?_,fr⟩,f11⟩
 ·rcases h with h | h
  ·exact absurd h hb
  ·subst h;exact⟨_,self⟩
 ·refine(other dx fun q=>?_).trans f10
  rw [q,gT] at f9;cases f9
theorem aw_entry {ea L:Nat} {n:AV} {m:TbM} {outer:List Env} {G:Nat→Kd} (frm:k.fr=k.env::outer) (hf:k.env.frame=some L) (hfr:A.frames=some k.fr) (S:StC k.c G k.fr k.P H s) (V:Vr G k.P k.env k.nm k.ws ρ s.heap) (F:Fly G s.heap ea n m) {head:Value} {hadNext:Bool} {Q':Unit→Shared→Prop}
  (h:∀ s',k.Aw ρ H ea n (.held L) s'→Q' () s') :
  wpAny M A (do let a ← frameOf k.env;let pl ← entryPlaceOf L hadNext;let b ← EntryCells.newEntry head a .none (rawInt L) .none pl;setField (.ref ea) 1 b) Q' E s:=by
 obtain⟨f1,f2,oe,vs,dx,md,f3,f4,f5,f6,f7,_,f9,⟨od,es,ep,f10,fr⟩,f11⟩:=F
 have S':StC k.c G (k.env::outer) k.P H s:=frm ▸ S
 refine p_entry S' (frm ▸ hfr) hf f1 f3 f6 f7 fun h' T oT ts mv hTn hTe hTs he' hT hdT h3=>h _ ?_
 have gT:G T=.free:=by
  cases hq:G T with
  | free=>rfl
  | _=>exact absurd (S.lt T (by rw [hq];exact fun e=>nomatch e)) (Nat.not_lt.mpr hTs)
 have mv':Mv k.fr (fun b=>b=ea∨b=T) s.heap h':=frm ▸ mv
 have hx:∀ b,(b=ea∨b=T)→G b=.exc∨G b=.free:=fun b e=>e.elim (fun e=>.inl (by rw [e];exact f1)) fun e=>.inr (by rw [e];exact gT)
 have hG:∀ b,G b≠.free→gset G T .exc b=G b:=fun b hb=>gset_ne fun e=>hb (by rw [e,gT])
 have hd':=Obj.data_mapFields f6 (·.setIfInBounds 1 (Value.ref T))
 refine⟨gset G T .exc,S.mv mv' hx hG (fun b hb hq=>?_),V.mv mv' hx hG (fun b e=>?_),(hG ea (by rw [f1];exact fun q=>nomatch q)).trans f1,f2,_,_,dx,md,he',?_,?_,hd',?_,?_,?_,⟨od,es,ep,?_,fr⟩,f11⟩
 ·rcases hq with h | h | h
  ·by_cases q:b=T
   ·rw [q];exact⟨_,hT⟩
   ·rw [gset_ne q] at hb;exact absurd h hb
  ·rw [h];exact⟨_,he'⟩
  ·rw [h];exact⟨_,hT⟩
 ·by_cases q:b=T
  ·rw [q,gset_eq] at e;cases e
  ·rwa [gset_ne q] at e
 ·rw [Obj.cls_mapFields];exact f4
 ·rw [dict_mapFields];exact f5
 ·simpa using f7
 ·exact⟨T,oT,ts,by simp [f7],gset_eq,hTe,hT,hdT,h3⟩
 ·rw [hG dx (by rw [f9];exact fun q=>nomatch q)];exact f9
 ·refine mv_same S mv' (fun q=>?_) (by rw [f9];exact fun q=>nomatch q) (by rw [f9];exact fun q=>nomatch q) f10
  rcases q with q | q
  ·rw [q,f1] at f9;cases f9
  ·rw [q,gT] at f9;cases f9
theorem p_note {ea L:Nat} {n:AV} {m:TbM} {outer:List Env} (frm:k.fr=k.env::outer) (hf:k.env.frame=some L) (hfr:A.frames=some k.fr) (W:k.Aw ρ H ea n m s) (hm:∀ L',m=.held L'→k.env.frame=some L') {Q':Unit→Shared→Prop}
  (h:∀ s',k.Aw ρ H ea n (.held L) s'→Q' () s'):wpAny M A (noteFrame (.ref ea) k.env) Q' E s:=by
 obtain⟨G,S,V,F⟩:=W
 have F':=F
 obtain⟨f1,f2,oe,vs,dx,md,f3,f4,f5,f6,f7,f8,f9,f10,f11⟩:=F
 unfold noteFrame
 simp only [hf]
 cases m with
 | made =>
  refine wpAny_bind (wpAny_field f3 f6 f8 ?_)
  rw [if_neg (by decide)]
  exact aw_entry frm hf hfr S V F' h
 | fly =>
  obtain⟨T,oT,ts,t1,t2,t3,t4,t5,t6⟩:=f8
  refine wpAny_bind (wpAny_field f3 f6 t1 ?_)
  rw [if_pos (show(Value.ref T != Value.none)=true from by simp)]
  refine wpAny_bind (wpAny_field t4 t5 t6 ?_)
  rw [if_neg (show ¬ ((Value.none == rawInt L)=true) from by simp [rawInt])]
  have hsz:=(Array.getElem?_eq_some_iff.mp t6).1
  refine wpAny_bind (wpAny_setField t4 t5 hsz ?_)
  obtain⟨G2,S2,V2,F2⟩:=aw_T (m':=.fly) (fl:=.none) S V F' f3 f6 t1 t2 t3 t4 t5 hsz (fun oT' ts' e1 e2 h' e3 zz=>⟨T,oT',ts',t1,t2,t3,e3,e1,e2⟩)
  exact aw_entry frm hf hfr S2 V2 F2 h
 | held L' =>
  obtain⟨T,oT,ts,t1,t2,t3,t4,t5,t6⟩:=f8
  have e:=hm L' rfl
  rw [hf] at e;cases e
  refine wpAny_bind (wpAny_field f3 f6 t1 ?_)
  rw [if_pos (show(Value.ref T != Value.none)=true from by simp)]
  refine wpAny_bind (wpAny_field t4 t5 t6 ?_)
  rw [if_pos (show(rawInt L == rawInt L)=true from by simp)]
  exact wpAny_pure (h s ⟨G,S,V,F'⟩)
theorem p_flight0 {ea L:Nat} {n:AV} (W:k.Aw ρ H ea n (.held L) s) {Q':Unit→Shared→Prop} (h:∀ s',k.Aw ρ H ea n .fly s'→Q' () s'):wpAny M A (setFlight (.ref ea) none) Q' E s:=by
 obtain⟨G,S,V,F⟩:=W
 have F':=F
 obtain⟨f1,f2,oe,vs,dx,md,f3,f4,f5,f6,f7,⟨T,oT,ts,t1,t2,t3,t4,t5,t6⟩,f9,f10,f11⟩:=F
 have hsz:=(Array.getElem?_eq_some_iff.mp t6).1
 unfold setFlight
 refine wpAny_bind (wpAny_field f3 f6 t1 ?_)
 rw [if_pos (show(Value.ref T != Value.none)=true from by simp)]
 exact wpAny_setField t4 t5 hsz (h _ (aw_T S V F' f3 f6 t1 t2 t3 t4 t5 hsz fun oT' ts' e1 e2 h' e3 zz=>⟨T,oT',ts',t1,t2,t3,e3,e1,e2⟩))
theorem p_flight0' {ea:Nat} {n:AV} (W:k.Aw ρ H ea n .fly s) {Q':Unit→Shared→Prop} (h:∀ s',k.Aw ρ H ea n .fly s'→Q' () s'):wpAny M A (setFlight (.ref ea) none) Q' E s:=by
 obtain⟨G,S,V,F⟩:=W
 have F':=F
 obtain⟨f1,f2,oe,vs,dx,md,f3,f4,f5,f6,f7,⟨T,oT,ts,t1,t2,t3,t4,t5,t6⟩,f9,f10,f11⟩:=F
 have hsz:=(Array.getElem?_eq_some_iff.mp t6).1
 unfold setFlight
 refine wpAny_bind (wpAny_field f3 f6 t1 ?_)
 rw [if_pos (show(Value.ref T != Value.none)=true from by simp)]
 exact wpAny_setField t4 t5 hsz (h _ (aw_T S V F' f3 f6 t1 t2 t3 t4 t5 hsz fun oT' ts' e1 e2 h' e3 zz=>⟨T,oT',ts',t1,t2,t3,e3,e1,e2⟩))
theorem p_cameBack {ea L:Nat} {n:AV} {m:TbM} (hf:k.env.frame=some L) (hm:m≠.made) (W:k.Aw ρ H ea n m s) {E':Value→Shared→Prop} (h:∀ s',k.Aw ρ H ea n (.held L) s'→E' (.ref ea) s'):cameBackBy M A k.env E' (.ref ea) s:=by
 obtain⟨G,S,V,F⟩:=W
 have F':=F
 obtain⟨f1,f2,oe,vs,dx,md,f3,f4,f5,f6,f7,f8,f9,f10,f11⟩:=F
 have tb:∃ T oT ts x,vs[1]? = some (.ref T)∧G T=.exc∧T≠ea∧s.heap.get? T=some oT∧oT.data=.fields ts∧ts[3]? = some x:=by
  cases m with
  | made=>exact absurd rfl hm
  | fly=>obtain⟨T,oT,ts,t1,t2,t3,t4,t5,t6⟩:=f8;exact⟨T,oT,ts,_,t1,t2,t3,t4,t5,t6⟩
  | held L'=>obtain⟨T,oT,ts,t1,t2,t3,t4,t5,t6⟩:=f8;exact⟨T,oT,ts,_,t1,t2,t3,t4,t5,t6⟩
 obtain⟨T,oT,ts,x,t1,t2,t3,t4,t5,t6⟩:=tb
 have hsz:=(Array.getElem?_eq_some_iff.mp t6).1
 unfold cameBackBy
 refine wpAny_bind (wpAny_field f3 f6 t1 ?_)
 rw [if_neg (show ¬ ((Value.ref T == Value.none)=true) from by simp)]
 unfold setFlight
 refine wpAny_bind (wpAny_field f3 f6 t1 ?_)
 rw [if_pos (show(Value.ref T != Value.none)=true from by simp),hf]
 exact wpAny_setField t4 t5 hsz (h _ (aw_T S V F' f3 f6 t1 t2 t3 t4 t5 hsz fun oT' ts' e1 e2 h' e3 zz=>⟨T,oT',ts',t1,t2,t3,e3,e1,e2⟩))
end
end Bm
namespace Bm
open PySem PySem.W PyProof.Rows PySem.SeqAt PySem.MeetsSeq
section
variable {k:Kx} {ρ:List AV} {H:AHeap} {s:Shared} {Q:SQ} {X:SX} {E:Value→Shared→Prop} {A:Around} {K:Frag} {M:Model} {sc:List (Str×NameKind)} {nm:List String} {T:Tab} {calls:Bool→CallSem}
theorem xs_aw {e:Value} (h:k.XS X e s):∃ ea n ρ' H' m,e=.ref ea∧k.Aw ρ' H' ea n m s∧(∀ L,m=.held L→k.env.frame=some L)∧X n ρ' H':=by
 obtain⟨G,ea,n,ρ',H',m,h1,h2,h3,h4,h5,h6⟩:=h
 exact⟨ea,n,ρ',H',m,h1,⟨G,h2,h3,h4⟩,h5,h6⟩
theorem aw_xs {ea:Nat} {n:AV} {m:TbM} (W:k.Aw ρ H ea n m s) (hm:∀ L,m=.held L→k.env.frame=some L) (h:X n ρ H):k.XS X (.ref ea) s:=by
 obtain⟨G,h2,h3,h4⟩:=W
 exact⟨G,ea,n,ρ,H,m,rfl,h2,h3,h4,hm,h⟩
theorem loop_err (O:OkS K T calls k) {e:Value} (h:k.XS X e s):notedBy M k.A k.env (fun e s'=>cameBackBy M k.A k.env (k.XS X) e s') e s:=by
 obtain⟨outer,L,frm,hf⟩:=O.frm
 obtain⟨ea,n,ρ',H',m,rfl,W,hm,hx⟩:=xs_aw h
 unfold notedBy
 exact p_note frm hf (by rw [O.ok.frames]) W hm fun s' W'=>p_cameBack (m:=.held L) hf (fun q=>nomatch q) W' fun s2 W2=>aw_xs W2 (fun L' e=>by cases e;exact hf) hx
theorem ss_while {t:Expr} {t':IE} {b:List Stmt} {b':ISs} {pos:Pos} (ht:SB K sc nm t t') (hb:SSs K T calls sc nm b b'):SS K T calls sc nm (.While t b [] pos) (.whil t' b'):=by
 intro k O hsc hnm ρ H s Q X S h
 have eT:=O.t
 subst eT
 obtain⟨n,h⟩:=h
 refine wpAny_While (codeAny_whileLoop (fun n s=>∃ ρ H,k.St ρ H s∧whileL (fun ρ H K=>vE k.T k.hd (calls k.hd) t' ρ H (fun v H=>Bm.truthy v H fun r=>K r H) (fun n H=>X n ρ H)) (fun ρ H K=>vSs k.T calls b' k.hd ρ H K X) n ρ H Q) ?_ n ⟨ρ,H,S,h⟩)
 clear S h
 rintro n s ⟨ρ,H,S,h⟩
 cases n with
 | zero=>exact h.elim
 | succ n =>
  unfold whileL at h
  rw [← O.call] at h
  refine wpAny_mono (ht k O.ok hsc hnm ρ H s _ _ (fun b H₁=>cnd b (vSs k.T calls b' k.hd ρ H₁ (fun fl ρ' H'=>match fl with
   | .next | .cont=>whileL (fun ρ H K=>vE k.T k.hd k.call t' ρ H (fun v H=>Bm.truthy v H fun r=>K r H) (fun n H=>X n ρ H)) (fun ρ H K=>vSs k.T calls b' k.hd ρ H K X) n ρ' H' Q
   | .brk=>Q .next ρ' H'
   | .ret v=>Q (.ret v) ρ' H') X) (Q .next ρ H₁)) S (fun v H h=>h) h) (fun c s2 ⟨H2,S2,h2⟩=>?_) fun e s' he=>loop_err O (XE_S he)
  cases c with
  | false =>
   show wpAny _ _ (execs [] k.env) _ _ s2
   exact wpAny_pure (rf_mk .next S2 h2)
  | true =>
   show wpAny _ _ (execs b k.env) _ _ s2
   refine wpAny_mono (hb k O hsc hnm ρ H2 s2 _ X S2 h2) (fun f s3 ⟨fl,ρ3,H3,hf,S3,h3⟩=>?_) fun e s' he=>loop_err O he
   rw [O.call] at h3
   cases hf with
   | next=>exact⟨n,Nat.lt_succ_self n,ρ3,H3,S3,h3⟩
   | cont=>exact⟨n,Nat.lt_succ_self n,ρ3,H3,S3,h3⟩
   | brk=>exact rf_mk .next S3 h3
   | ret hv=>exact rf_mk (.ret hv) S3 h3
theorem OkS.onP (O:OkS K T calls k) (p:Addr×Obj):OkS K T calls (k.withP p):=⟨O.ok.withP p,O.t,O.call,O.both,O.ws,O.frm⟩
theorem XS_drop {p:Addr×Obj} (hp:∀ v,p.2.data≠.cell v) {e:Value} {s':Shared} (h:(k.withP p).XS X e s'):k.XS X e s':=by
 obtain⟨G,ea,n,ρ',H',m,h1,S,V,h2,h3,h4⟩:=h
 refine⟨G,ea,n,ρ',H',m,h1,S.lessP fun q hq=>.tail _ hq,V.subP fun c o v hm hd=>?_,h2,h3,h4⟩
 rcases List.mem_cons.mp hm with z | z
 ·cases z;exact absurd hd (hp v)
 ·exact z
theorem St_drop1 {d:Nat} {o:Obj} (own:Own k d) (ho:∀ v,o.data≠.cell v) (S:(k.withP (d,o)).St ρ H s):k.St ρ H s:=St_dropP own ho S (h':=s.heap) (tk:=s.toks) fun zz zz zz e=>e
theorem ss_for {x:Str} {px:Pos} {i:Nat} {it:Expr} {it':IT} {b:List Stmt} {b':ISs} {pos:Pos} (hi:idx x nm=some i) (hset:isSet it=false) (ht:ST K sc nm it it') (hb:SSs K T calls sc nm b b'):SS K T calls sc nm (.For (.Name x px) it b [] pos) (.for_ i it' b'):=by
 intro k O hsc hnm ρ H s Q X S h
 have eT:=O.t
 subst eT
 have h:vT k.T k.hd (calls k.hd) it' ρ H _ _:=h
 rw [← O.call] at h
 rw [arm_exec_For]
 refine wpAny_bind (wpAny_standAt (wpAny_bind (wpAny_mono (ht k O.ok hsc hnm ρ H s _ _ S h) (fun v s1 ⟨src,xs,H1,S1,hit,hok,hlen,hhd,h1⟩=>?_) fun zz zz e=>XE_S e)))
 refine wpAny_bind (wpAny_of_eq (notSet hset k.env v) (wpAny_bind (wpAny_standAt (wpAny_bind (wpAny_holding ?_)))))
 refine p_iter S1 hit fun o s2 itr S2=>?_
 have own:=Own.at S1
 generalize s1.heap.objs.size=I at own S2 ⊢
 have hh:=O.ok.hand hhd
 refine wpAny_runOwn (codeAny_forLoop (fun n s=>∃ (o:Obj) (xs:List AV) (ρ:List AV) (H:AHeap),n=xs.length+1∧ItR src o xs∧src.ok H∧(k.withP (I,o)).St ρ H s∧forL src i (fun ρ H K=>vSs k.T calls b' k.hd ρ H K X) xs ρ H Q) ?_ (xs.length+1) ⟨o,xs,ρ,H1,rfl,itr,hok,S2,h1⟩)
 clear S2 h1 itr hok hlen hit S1 S h
 rintro n s ⟨o,xs,ρ,H,rfl,itr,hok,S,h⟩
 refine p_next hh own itr hok S (fun e s' S'=>?_) (fun y ys e v o' s' hv itr' S'=>?_)
 ·subst e
  show wpAny _ _ (execs [] k.env) _ _ s'
  exact wpAny_pure (rf_mk .next S' h)
 ·subst e
  unfold forL at h
  have nc:∀ v,((I,o'):Addr×Obj).2.data≠.cell v:=fun v q=>by obtain⟨fvs,hf⟩:=itr'.fields;rw [hf] at q;cases q
  have hi':idx x (k.withP (I,o')).nm=some i:=by show idx x k.nm=some i;rw [hnm];exact hi
  refine p_assign (k:=k.withP (I,o')) hi' (mem_ws (O.onP (I,o')) hi') hv S' fun s3 S3=>?_
  refine wpAny_mono (hb (k.withP (I,o')) (O.onP (I,o')) hsc hnm _ H s3 _ X S3 h) (fun f s4 ⟨fl,ρ4,H4,hf,S4,h4⟩=>?_) fun e s' he=>loop_err O (XS_drop (p:=(I,o')) nc he)
  cases hf with
  | next=>exact⟨ys.length+1,Nat.lt_succ_self _,o',ys,ρ4,H4,rfl,itr',h4.1,S4,h4.2⟩
  | cont=>exact⟨ys.length+1,Nat.lt_succ_self _,o',ys,ρ4,H4,rfl,itr',h4.1,S4,h4.2⟩
  | brk=>exact rf_mk .next (St_drop1 own nc S4) h4
  | ret hv'=>exact rf_mk (.ret hv') (St_drop1 own nc S4) h4
end
end Bm
namespace Bm
open PySem PySem.W PyProof.Rows PySem.SeqAt PySem.MeetsSeq
theorem nodup_of {l:List String} (h:nodup l=true):l.Nodup:=by
 induction l with
 | nil=>exact .nil
 | cons n r ih =>
  have h:(decide (n∉r)&&nodup r)=true:=h
  rw [Bool.and_eq_true,decide_eq_true_eq] at h
  exact List.nodup_cons.mpr ⟨h.1,ih h.2⟩
section
variable {k:Kx} {ρ:List AV} {H:AHeap} {s:Shared} {E:Value→Shared→Prop} {A:Around} {K:Frag} {M:Model} {sc:List (Str×NameKind)} {nm:List String} {T:Tab} {calls:Bool→CallSem}
theorem lookup_zip {ps:List Str}:∀ {vs:List Value} {x:Str},ps.length=vs.length→x∈ps→((ps.zip vs).lookup x).isNone=false:=by
 induction ps with
 | nil=>exact fun zz h=>nomatch h
 | cons p ps ih =>
  intro vs x hl hx
  cases vs with
  | nil=>exact nomatch hl
  | cons v vs =>
   rw [List.zip_cons_cons,List.lookup_cons]
   cases hq:x == p with
   | true=>rfl
   | false=>exact ih (Nat.succ.inj hl) ((List.mem_cons.mp hx).resolve_left (beq_eq_false_iff_ne.mp hq))
theorem zip_go {qs:List Str}:∀ {us:List Value} {pre:List (Str×Value)},qs.length=us.length→qs.Nodup→(∀ q∈qs,pre.lookup q=none)→(qs.filterMap fun n=>((pre++qs.zip us).lookup n).map (n,·))=qs.zip us:=by
 induction qs with
 | nil=>exact fun zz zz zz=>rfl
 | cons q qs ih =>
  intro us pre hl hn hp
  cases us with
  | nil=>exact nomatch hl
  | cons u us =>
   have hn':=List.nodup_cons.mp hn
   have h2:=ih (us:=us) (pre:=pre++[(q,u)]) (Nat.succ.inj hl) hn'.2 fun q' hq'=>by
    rw [List.lookup_append,hp q' (.tail _ hq'),List.lookup_cons,show(q' == q)=false from beq_eq_false_iff_ne.mpr fun e=>hn'.1 (e ▸ hq')];rfl
   rw [List.append_assoc] at h2
   rw [List.filterMap_cons,List.zip_cons_cons,List.lookup_append,hp q (.head _),Option.none_or,List.lookup_cons,beq_self_eq_true]
   exact congrArg ((q,u)::·) h2
theorem wp_if {α:Type} {c:Bool} {a b:Sem α} {Q:α→Shared→Prop} (h:c=false) (k:wpAny M A b Q E s):wpAny M A (if c=true then a else b) Q E s:=by
 rw [h,if_neg Bool.false_ne_true];exact k
theorem wp_seq {α:Type} {v:Value} {f:Option (Array Value)→Sem α} {Q:α→Shared→Prop} (hd:v=.none∨∃ D o xs n,v=.ref D∧s.heap.get? D=some o∧o.data=.seq xs n) (k:∀ r,wpAny M A (f r) Q E s):wpAny M A (seqItems? v >>= f) Q E s:=by
 refine wpAny_bind ?_
 rcases hd with hd | ⟨D,o,xs,n,hd,ho,hx⟩
 ·rw [hd];exact wpAny_pure (k _)
 ·rw [hd];exact wpAny_bind (wpAny_load ho (by rw [hx];exact wpAny_pure (k _)))
theorem forIn_fix {α β:Type} {l:List α} {f:α→β→Sem (ForInStep β)} {c:β} (h:∀ x∈l,f x c=pure (.yield c)):forIn l c f=pure c:=by
 induction l with
 | nil=>rfl
 | cons x l ih =>
  rw [List.forIn_cons,h x List.mem_cons_self,pure_bind]
  exact ih fun y hy=>h y (List.mem_cons_of_mem _ hy)
theorem wp_for {α β γ:Type} {l:List α} {f:α→β→Sem (ForInStep β)} {c:β} {g:β→Sem γ} {Q:γ→Shared→Prop} (h:∀ x∈l,f x c=pure (.yield c)) (k:wpAny M A (g c) Q E s):wpAny M A (forIn l c f >>= g) Q E s:=by
 rw [forIn_fix h,pure_bind];exact k
noncomputable abbrev plainA (a:List Arg) (k:List (Option Expr)) (d:List Expr):Arguments:=⟨[],a,none,[],k,none,d⟩
theorem and4 {a b c d:Bool} (h:(a&&b&&c&&d)=true) {P:Prop} (k:a=true→b=true→c=true→d=true→P):P:=by
 rw [Bool.and_eq_true,Bool.and_eq_true,Bool.and_eq_true] at h;exact k h.1.1.1 h.1.1.2 h.1.2 h.2
theorem plainP_eq {p:Arguments} (h:plainP p=true):p=plainA p.args p.kw_defaults p.defaults:=by
 obtain⟨po,ar,va,ko,kd,kw,df⟩:=p
 refine and4 h fun h1 h2 h3 h4=>?_
 have e1:po=[]:=List.isEmpty_iff.mp h1
 have e2:va=none:=Option.isNone_iff_eq_none.mp h2
 have e3:ko=[]:=List.isEmpty_iff.mp h3
 have e4:kw=none:=Option.isNone_iff_eq_none.mp h4
 rw [e1,e2,e3,e4]
theorem bind_plain {fd:FuncData} {ar:List Arg} {kds:List (Option Expr)} {dfs:List Expr} {vs:List Value} {Q:List (Str×Value)→Shared→Prop} (hd:fd.defaults=.none∨∃ D o xs n,fd.defaults=.ref D∧s.heap.get? D=some o∧o.data=.seq xs n)
  (hl:vs.length=(ar.map (·.arg)).length) (hn:(ar.map (·.arg)).Nodup) (h:Q ((ar.map (·.arg)).zip vs) s):wpAny M A (bindArgs { fd with params:=plainA ar kds dfs } ⟨vs,[]⟩) Q E s:=by
 refine wp_seq hd fun r=>?_
 refine wp_if (Bool.and_eq_false_imp.mpr fun q=>absurd (of_decide_eq_true q) (Nat.not_lt.mpr (Nat.le_of_eq hl))) ?_
 refine wp_if (congrArg not (List.isEmpty_iff.mpr (List.filter_eq_nil_iff.mpr fun x hx q=>?_):_=true)) ?_
 ·exact Bool.false_ne_true ((lookup_zip hl.symm (List.mem_of_mem_take hx)).symm.trans q)
 refine wp_for (fun x hx=>?_) ?_
 ·exact if_neg (Bool.eq_false_iff.mp (lookup_zip hl.symm (List.mem_of_mem_drop (List.of_mem_zip hx).1)))
 refine wpAny_pure (Eq.subst (motive:=fun x=>Q x s) (Eq.symm ?_) h)
 exact(congrArg _ (List.append_nil _)).trans (zip_go (pre:=[]) hl.symm hn fun zz zz=>rfl)
theorem bind_exact {fd:FuncData} {vs:List Value} {Q:List (Str×Value)→Shared→Prop} (hp:plainP fd.params=true) (hd:fd.defaults=.none∨∃ D o xs n,fd.defaults=.ref D∧s.heap.get? D=some o∧o.data=.seq xs n) (hl:vs.length=(fd.params.args.map (·.arg)).length) (hn:(fd.params.args.map (·.arg)).Nodup)
  (h:Q ((fd.params.args.map (·.arg)).zip vs) s):wpAny M A (bindArgs fd ⟨vs,[]⟩) Q E s:=by
 have e:fd={ fd with params:=plainA fd.params.args fd.params.kw_defaults fd.params.defaults }:=congrArg (fun p=>{ fd with params:=p }) (plainP_eq hp)
 rw [e]
 exact bind_plain hd hl hn h
theorem fold_get {x:Str} {B:List (Str×Value)→(Str→Option Value)→Str→Option Value} {st:Str→Value→(Str→Option Value)→Str→Option Value} (b0:∀ m,B [] m=m) (b1:∀ n v r m,B ((n,v)::r) m=B r (st n v m)) (s1:∀ v m,st x v m x=some v) (s2:∀ n v m,n≠x→st n v m x=m x)
  {v:Value} {binds:List (Str×Value)}:∀ {m:Str→Option Value},(binds.map (·.1)).Nodup→((x,v)∈binds∨m x=some v∧x∉binds.map (·.1))→B binds m x=some v:=by
 induction binds with
 | nil=>exact fun zz h=>(congrFun (b0 _) x).trans (h.resolve_left fun q=>nomatch q).1
 | cons e r ih =>
  intro m hn h
  rw [List.map_cons,List.nodup_cons] at hn
  rw [show B (e::r) m=_ from b1 ..]
  by_cases q:e.1=x
  ·have z:(x,v)∉r:=fun z=>hn.1 (List.mem_map.mpr ⟨_,z,q.symm⟩)
   rcases h with h | h
   ·rcases List.mem_cons.mp h with h | h
    ·exact ih hn.2 (.inr ⟨by rw [← h];exact s1 v m,by rw [← q];exact hn.1⟩)
    ·exact absurd h z
   ·exact absurd (List.mem_map.mpr ⟨e,.head _,q⟩) h.2
  ·refine ih hn.2 (h.imp (fun h=>(List.mem_cons.mp h).resolve_left fun z=>q (by rw [← z])) fun h=>⟨(s2 _ _ _ q).trans h.1,fun z=>h.2 (.tail _ z)⟩)
theorem bindL_get {kindOf:Str→Option NameKind} {binds:List (Str×Value)} {m:Str→Option Value} {x:Str} {v:Value} (hn:(binds.map (·.1)).Nodup) (hk:kindOf x=some .local) (h:(x,v)∈binds):bindL kindOf binds m x=some v :=
 fold_get (st:=fun n v m=>if kindOf n=some .local then fun y=>if y=n then some v else m y else m) (fun zz=>rfl) (fun zz zz zz zz=>rfl) (fun v m=>by rw [if_pos hk,if_pos rfl]) (fun n v m q=>by split <;> first | rfl | exact if_neg (Ne.symm q)) hn (.inl h)
theorem bindC_get {kindOf:Str→Option NameKind} {binds:List (Str×Value)} {m:Str→Option Value} {x:Str} {v:Value} (hn:(binds.map (·.1)).Nodup) (hk:kindOf x≠some .local) (h:(x,v)∈binds):bindC kindOf binds m x=some v :=
 fold_get (st:=fun n v m=>if kindOf n=some .local then m else fun y=>if y=n then some v else m y) (fun zz=>rfl) (fun zz zz zz zz=>rfl) (fun v m=>by rw [if_neg hk,if_pos rfl]) (fun n v m q=>by split <;> first | rfl | exact if_neg (Ne.symm q)) hn (.inl h)
theorem lget_append {l m:List AV}:∀ {i:Nat},i < l.length→lget (l++m) i=lget l i:=by
 induction l with
 | nil=>exact fun h=>absurd h (Nat.not_lt_zero _)
 | cons _ l ih=>exact fun {i}=>Nat.rec (fun zz=>rfl) (fun zz zz h=>ih (Nat.lt_of_succ_lt_succ h)) i
theorem lget_rep {n:Nat}:∀ {i:Nat},lget (List.replicate n .undef) i=.undef:=by
 induction n with
 | zero=>exact rfl
 | succ n ih=>exact fun {i}=>Nat.rec rfl (fun zz zz=>ih) i
theorem lget_undefs {l:List AV} {n:Nat}:∀ {i:Nat},l.length≤i→lget (l++List.replicate n .undef) i=.undef:=by
 induction l with
 | nil=>exact fun zz=>lget_rep
 | cons _ l ih=>exact fun {i}=>Nat.rec (fun h=>absurd h (Nat.not_succ_le_zero _)) (fun zz zz h=>ih (Nat.le_of_succ_le_succ h)) i
@[elab_as_elim] theorem idx_cons {x:Str} {p:String} {ps:List String} {i:Nat} {C:Nat→Prop} (h:idx x (p::ps)=some i) (k1:Str.ofString p=x→C 0) (k2:∀ j,Str.ofString p≠x→idx x ps=some j→C (j+1)):C i:=by
 have h:(if Str.ofString p=x then some 0 else(idx x ps).map (· + 1))=some i:=h
 by_cases q:Str.ofString p=x
 ·rw [if_pos q] at h;exact Option.some.inj h ▸ k1 q
 ·rw [if_neg q] at h
  obtain⟨j,e,h⟩:=Option.map_eq_some_iff.mp h
  exact h ▸ k2 j q e
theorem zip_at {vs:List Value} {avs:List AV} (hv:L2 VR vs avs):∀ {ps:List String} {x:Str} {i:Nat},idx x ps=some i→i < avs.length→∃ v,(x,v)∈(ps.map Str.ofString).zip vs∧VR v (lget avs i):=by
 induction hv with
 | nil=>exact fun zz h=>absurd h (Nat.not_lt_zero _)
 | cons r _ ih =>
  intro ps x i h
  cases ps with
  | nil=>exact nomatch h
  | cons p ps =>
   refine idx_cons h (fun q zz=>⟨_,q ▸ .head _,r⟩) fun j zz h hi=>?_
   obtain⟨u,u1,u2⟩:=ih h (Nat.lt_of_succ_lt_succ hi)
   exact⟨u,.tail _ u1,u2⟩
theorem idx_take {names:List String}:∀ {n i:Nat} {x:Str},idx x names=some i→i < n→idx x (names.take n)=some i:=by
 induction names with
 | nil=>exact fun h=>nomatch h
 | cons p ps ih =>
  intro n i x h
  cases n with
  | zero=>exact fun hi=>absurd hi (Nat.not_lt_zero _)
  | succ n=>exact idx_cons h (fun q zz=>if_pos q) fun j q h hi=>(if_neg q).trans (congrArg (Option.map (· + 1)) (ih h (Nat.lt_of_succ_lt_succ hi)))
theorem nodup_str {l:List String} (h:l.Nodup):(l.map Str.ofString).Nodup:=List.Pairwise.map _ (fun zz zz n e=>n (ofString_inj e)) h
theorem zip_fst {l:List Str} {vs:List Value} (h:l.length=vs.length):(l.zip vs).map (·.1)=l:=List.map_fst_zip (Nat.le_of_eq h)
structure FnAt (K:Frag) (f:Nat) (fn:Fn) (fd:FuncData) (body:List Stmt):Prop where
 at_:∃ c d sl,K.lookup f=some ⟨c,d,.func fd,sl⟩
 body_:fd.body=.stmts body
 clos:fd.closure=[]
 glob:fd.globals=mainGlobals
 blt:fd.builtins=builtinsNs
 dflt:fd.defaults=.none
 par:plainP fd.params=true
 code:codeIn K fd.code fd.qualname=true
 chk:∀ (T:Tab) (calls:Bool→CallSem),SSs K T calls fd.scope.names fn.names body fn.body
 nd:fn.names.Nodup
 args:fd.params.args.map (·.arg)=(fn.names.take fn.np).map Str.ofString
 np:fn.np≤fn.names.length
 kinds:∀ x∈fn.names,fd.scope.names.lookup (Str.ofString x)=some .local∨fd.scope.names.lookup (Str.ofString x)=some .cell
 kind:fd.scope.kind=.function
 gen:fd.scope.isGenerator=false
 cor:fd.scope.isCoroutine=false
 free:∀ x∈fd.scope.names,x.2≠.free
end
end Bm
namespace Bm
open PySem PySem.W PyProof.Rows PySem.SeqAt PySem.MeetsSeq
section
variable {k:Kx} {ρ:List AV} {H:AHeap} {s:Shared} {E:Value→Shared→Prop} {A:Around} {K:Frag} {M:Model} {sc:List (Str×NameKind)} {nm:List String} {T:Tab} {calls:Bool→CallSem}
theorem call_env {c:Cx} {G:Nat→Kd} {fr:List Env} {P:List (Addr×Obj)} (nv:∀ a,G a≠.var) (S:StC c G fr P H s) {f:Nat} {fn:Fn} {fd:FuncData} {body:List Stmt} (C:FnAt K f fn fd body) {vs:List Value} {args:List AV} (hv:L2 VR vs args) (hl:args.length=fn.np) {env:Env} {s':Shared}
  (he:env=newEnv fd.scope s.heap.objs.size fd.globals (cellsFrom (s.heap.objs.size+1) fd.scope.names []) (fd.qualname++".<locals>.") (some f) fd.code none fd.builtins)
  (x:InCallC s env.locals (bindL env.kindOf ((fd.params.args.map (·.arg)).zip vs) fun zz=>none) env.cells (bindC env.kindOf ((fd.params.args.map (·.arg)).zip vs) fun zz=>none) s') :
  ∃ G',StC c G' (env::fr) P H s'∧Vr G' P env fn.names fn.names (args++List.replicate (fn.names.length - fn.np) .undef) s'.heap∧env.frame=some env.locals∧(∀ p∈P,p.1≠env.locals):=by
 obtain⟨h',tk,es'⟩:=x.toInCall.same
 have keep:=x.toInCall.keep
 have hL:env.locals=s.heap.objs.size:=by rw [he];rfl
 have hcells:env.cells=cellsFrom (s.heap.objs.size+1) fd.scope.names []:=by rw [he];rfl
 have hscope:env.scope=fd.scope:=by rw [he];rfl
 have hkind:∀ y,env.kindOf y=fd.scope.names.lookup y:=fun y=>by show env.scope.names.lookup y=_;rw [hscope]
 have hns:=x.toInCall.ns
 have keep':∀ b o,s.heap.get? b=some o→h'.get? b=some o:=fun b o e=>by have:=keep b o e;rw [es'] at this;exact this
 have S1:=S.vars (tk:=tk) keep'
 rw [← es'] at S1
 have eh:s'.heap=h':=by rw [es']
 obtain⟨oL,les,lep,hoL,hdL,_⟩:=id hns
 have gL:varG G s.heap.objs.size h' env.locals=.var:=varG_new (by rw [hL];exact Nat.le_refl _) (by rw [← eh];exact hoL)
 have cellV:∀ y ca,env.cells.lookup y=some ca→varG G s.heap.objs.size h' ca=.var∧∃ v,s'.heap.IsCell ca v:=fun y ca e=>by
  have hc:=x.cell y ca e
  obtain⟨o,ho,hd⟩:=id hc
  refine⟨varG_new ?_ (by rw [← eh];exact ho),_,hc⟩
  have:=x.above y ca (lookup_mem e)
  rw [hL] at this
  exact Nat.le_of_lt this
 have accLow:∀ n c',(n,c')∈([]:List (Str×Addr))→c' < (s.heap.push { cls:=.type "frame",data:=.dict #[] }).objs.size:=fun n c' h=>nomatch h
 have La:=laid fd.scope.names (s.heap.push { cls:=.type "frame",data:=.dict #[] }) [] accLow
 have psz:(s.heap.push { cls:=.type "frame",data:=.dict #[] }).objs.size=s.heap.objs.size+1:=Heap.size_push ..
 rw [psz,← hcells] at La
 have kinds:∀ y∈fn.names,env.kindOf (Str.ofString y)=some .local∨(env.kindOf (Str.ofString y)=some .cell∧∃ ca,env.cells.lookup (Str.ofString y)=some ca):=fun y hy=>by
  rw [hkind]
  rcases C.kinds y hy with h | h
  ·exact .inl h
  ·exact .inr ⟨h,La.new _ (lookup_mem h)⟩
 have hvl:vs.length=args.length:=hv.length
 have psl:(fd.params.args.map (·.arg)).length=vs.length:=by rw [C.args,List.length_map,List.length_take,hvl,hl,Nat.min_eq_left C.np]
 have bnd:(((fd.params.args.map (·.arg)).zip vs).map (·.1)).Nodup:=by
  rw [zip_fst psl,C.args]
  exact nodup_str (C.nd.sublist (List.take_sublist _ _))
 refine⟨_,⟨S1.keep,S1.ex,S1.hv,fun p hp=>?_,fun e h=>?_,S1.gens,S1.drawn,S1.os⟩,⟨?_,?_,?_,gL,⟨_,hns⟩,fun y i e hk n=>?_,fun y hy=>?_,fun y ca e q=>(cellV y ca e).2,fun y z ca e e'=>name_of_addr x.apart (mem_of_lookup e) (mem_of_lookup e'),?_,fun y ca e=>.inl (cellV y ca e).1,fun y hy=>?_⟩,?_,fun p hp q=>?_⟩
 ·refine⟨(S1.pv p hp).1,(S1.pv p hp).2.imp id fun⟨⟨⟨e,he',z⟩,z2⟩,z3⟩=>⟨⟨⟨e,.tail _ he',z⟩,z2⟩,z3⟩⟩
 ·rcases List.mem_cons.mp h with e' | h
  ·rw [e']
   have kn:env.scope.kind≠.module:=by rw [hscope,C.kind];exact fun q=>nomatch q
   exact⟨kn,env.locals,oL,by rw [he];rfl,.inr gL,hoL,les,lep,hdL⟩
  ·exact S1.frs e h
 ·rw [hscope];exact C.kind
 ·rw [he];exact C.glob
 ·rw [he];exact C.blt
 ·have hi:i < args.length:=by
   rcases Nat.lt_or_ge i args.length with q | q
   ·exact q
   ·exact absurd (lget_undefs q) n
  rw [lget_append hi]
  obtain⟨v,v1,v2⟩:=zip_at (ps:=fn.names.take fn.np) hv (idx_take (n:=fn.np) e (hl ▸ hi)) hi
  rw [← C.args] at v1
  obtain⟨ny,hny,hoy⟩:=idx_at e
  have hmem:ny∈fn.names:=List.mem_of_getElem? hny
  refine⟨v,?_,v2⟩
  rcases kinds ny hmem with h | ⟨h,ca,hca⟩
  ·rw [hoy] at h
   exact .inl ⟨h,_,hns,bindL_get bnd h v1⟩
  ·rw [hoy] at h hca
   refine .inr ⟨ca,.inl h,hca,.inl ⟨(cellV _ ca hca).1,?_⟩⟩
   have:=x.cell _ ca hca
   rw [bindC_get bnd (by rw [h];exact fun q=>nomatch q) v1] at this
   exact this
 ·rcases kinds y hy with h | ⟨h,ca,hca⟩
  ·exact .inl h
  ·exact .inr ⟨h,ca,hca,(cellV _ ca hca).1⟩
 ·rw [List.length_append,List.length_replicate,hl];have:=C.np;lia
 ·rcases hy with h | h
  ·rw [hkind] at h;exact La.new _ (lookup_mem h)
  ·rw [hkind] at h;exact absurd rfl (C.free _ (lookup_mem h))
 ·rw [he];rfl
 ·have:=S.lt p.1 (by rw [(S.pv p hp).1];exact fun q=>nomatch q)
  rw [q,hL] at this
  exact Nat.lt_irrefl _ this
theorem StC.leave {c:Cx} {G:Nat→Kd} {env:Env} {fr:List Env} {P P':List (Addr×Obj)} (S:StC c G (env::fr) P' H s) (hP:∀ p∈P,p∈P') (hL:∀ p∈P,env.frame≠some p.1):StC c G fr P H s :=
 ⟨S.keep,S.ex,S.hv,fun p hp=>⟨(S.pv p (hP p hp)).1,(S.pv p (hP p hp)).2.imp id fun⟨⟨⟨e,he,z⟩,z2⟩,z3⟩=>by
  rcases List.mem_cons.mp he with rfl | he
  ·exact absurd z (hL p hp)
  ·exact⟨⟨⟨e,he,z⟩,z2⟩,z3⟩⟩,fun e he=>S.frs e (.tail _ he),S.gens,S.drawn,S.os⟩
theorem Fly.putBy {G:Nat→Kd} {h:Heap} {ea:Nat} {n:AV} {m:TbM} (F:Fly G h ea n m):Fly (Bm.putBy G) h ea n m:=by
 exact F.mv fun a e=>putBy_ne fun q=>by rw [q] at e;rcases e with e | e <;> cases e
theorem call_step {c:Cx} {n:Nat} {hd:Bool} (F:Fa c T K) {f:Nat} {fn:Fn} {fd:FuncData} {body:List Stmt} (C:FnAt K f fn fd body) (hcalls:∀ b,CallOk c (calls b) n b)
  {args:List AV} {Q X:EQ} (hl:args.length=fn.np)
  (h:vSs T calls fn.body hd (args++List.replicate (fn.names.length - fn.np) .undef) H (retQ Q) (callX X))
  {fr:List Env} {P:List (Addr×Obj)} {G:Nat→Kd} {vs:List Value} (nv:∀ a,G a≠.var) (hv:L2 VR vs args) (S:StC c G fr P H s) (room:Room A (n+1)) (hfr:A.frames=some fr) (hh:hd=false→A.handled=none) :
  codeAny (model c.prog c.w) A (.call (.ref f) ⟨vs,[]⟩) (RP c fr P Q X) s:=by
 obtain⟨c1,d1,sl1,hk⟩:=C.at_
 have XK:K.In s.heap:=F.inK.keeps fun b o e=>(S.keep b o e).2
 have lim:s.heap.NoLimit:=F.nolim.keeps fun b o e=>(S.keep b o e).2
 have hvl:vs.length=args.length:=hv.length
 have psl:vs.length=(fd.params.args.map (·.arg)).length:=by rw [C.args,List.length_map,List.length_take,hvl,hl,Nat.min_eq_left C.np]
 have psn:(fd.params.args.map (·.arg)).Nodup:=by rw [C.args];exact nodup_str (C.nd.sublist (List.take_sublist _ _))
 refine codeAny_call_function (by have:=room.1;have e:recursionLimit=1000:=rfl;lia) (XK _ _ hk) rfl C.cor C.gen C.body_ (codeRec_of XK C.code) ?_
 refine bind_exact C.par (.inl C.dflt) psl psn ?_
 rw [C.clos]
 refine wpAny_newFunctionEnv_cells C.kind (fun x hx=>?_) fun env he s' x=>?_
 ·have hm:x.1∈fd.params.args.map (·.arg):=(List.of_mem_zip (a:=x.1) (b:=x.2) hx).1
  rw [C.args] at hm
  obtain⟨y,hy,e⟩:=List.mem_map.mp hm
  rw [← e]
  rcases C.kinds y (List.mem_of_mem_take hy) with h | h
  ·exact .inl h
  ·refine .inr ⟨h,?_⟩
   have psz:(s.heap.push { cls:=.type "frame",data:=.dict #[] }).objs.size=s.heap.objs.size+1:=Heap.size_push ..
   have La:=laid fd.scope.names (s.heap.push { cls:=.type "frame",data:=.dict #[] }) [] (fun n c' h=>nomatch h)
   rw [psz] at La
   obtain⟨ca,hca⟩:=La.new _ (lookup_mem h)
   rw [hca];rfl
 ·obtain⟨G',S',V',hf,own⟩:=call_env nv S C hv hl he x
  refine⟨?_,?_⟩
  ·exact lim.keeps x.toInCall.keep
  let k':Kx:=⟨c,A.deeper env,env::fr,P,env,fn.names,fn.names,n,hd,calls hd,T⟩
  have Ok':OkS K T calls k':=⟨⟨F,⟨by have:=room.1;show A.depth+1+3*n+2≤900;lia,by have:=room.2;show A.units+3+20*n+17≤9000;lia⟩,by show A.frames.map (env::·)=some (env::fr);rw [hfr];rfl,hh,hcalls hd⟩,rfl,rfl,hcalls,rfl,fr,env.locals,rfl,hf⟩
  have hsc:k'.env.scope.names=fd.scope.names:=by show env.scope.names=_;rw [he];rfl
  have run:=C.chk T calls k' Ok' hsc rfl _ H s' _ _ ⟨G',S',V'⟩ h
  have ownf:∀ p∈P,env.frame≠some p.1:=fun p hp q=>own p hp (Option.some.inj (hf.symm.trans q)).symm
  refine codeAny_func (wpAny_mono run (fun fl s2 ⟨fl',ρ2,H2,hfl,⟨G2,S2,V2⟩,hq⟩=>?_) fun e s2 he2=>?_)
  ·have S3:=St_putBy (k:=k') S2 V2
   have S4:StC c (putBy G2) fr P H2 s2:=S3.leave (fun p hp=>List.mem_append_right _ hp) ownf
   cases hfl with
   | next=>exact⟨_,_,H2,putBy_noVar G2,.none,S4,hq⟩
   | brk=>exact hq.elim
   | cont=>exact hq.elim
   | ret hv'=>exact⟨_,_,H2,putBy_noVar G2,hv',S4,hq⟩
  ·obtain⟨ea,n',ρ2,H2,m,rfl,W,hm,hx⟩:=xs_aw he2
   unfold leaving
   refine wpAny_bind (p_note (k:=k') rfl hf Ok'.ok.frames W hm fun s3 W3=>?_)
   refine p_flight0 W3 fun s4 W4=>?_
   obtain⟨G4,S4,V4,F4⟩:=W4
   have S5:=St_putBy (k:=k') S4 V4
   have S6:StC c (putBy G4) fr P H2 s4:=S5.leave (fun p hp=>List.mem_append_right _ hp) ownf
   exact⟨_,ea,n',H2,putBy_noVar G4,rfl,S6,F4.putBy,hx⟩
end
end Bm
namespace Bm
open PySem PySem.W PyProof.Rows PySem.SeqAt PySem.MeetsSeq
section
variable {k:Kx} {ρ:List AV} {H:AHeap} {s:Shared} {Q:SQ} {X:SX} {E:Value→Shared→Prop} {A:Around} {K:Frag} {M:Model} {sc:List (Str×NameKind)} {nm:List String} {T:Tab} {calls:Bool→CallSem}
noncomputable def Kx.handler (k:Kx) (calls:Bool→CallSem) (e:Value):Kx:={ k with A:=k.A.mark (some e),hd:=true,call:=calls true }
theorem Ok_handler (O:OkS K T calls k) (e:Value):OkS K T calls (k.handler calls e) :=
 ⟨⟨O.ok.F,O.ok.room,O.ok.frames,(fun q=>nomatch q),O.both true⟩,O.t,rfl,O.both,O.ws,O.frm⟩
theorem h_St {e:Value}:(k.handler calls e).St ρ H s↔k.St ρ H s:=⟨fun⟨G,S,V⟩=>⟨G,S,V⟩,fun⟨G,S,V⟩=>⟨G,S,V⟩⟩
theorem h_Aw {e:Value} {ea:Nat} {n:AV} {m:TbM} (W:k.Aw ρ H ea n m s):(k.handler calls e).Aw ρ H ea n m s:=let ⟨G,S,V,F⟩:=W;⟨G,S,V,F⟩
theorem XS_false {e:Value} {s':Shared} (h:k.XS (fun zz zz zz=>False) e s'):False:=let ⟨_,_,_,_,_,_,_,_,_,_,_,f⟩:=h;f
theorem isStop (O:k.Ok K) {x:Str} {np:Pos} (hg:isG sc nm x=true) (hx:x = "SearchStopped") (hsc:k.env.scope.names=sc) {ea:Nat} {n:AV} {m:TbM} (W:k.Aw ρ H ea n m s) {Q1:Bool→Shared→Prop} {E':Value→Shared→Prop} (h:Q1 true s) :
  wpAny (model k.c.prog k.c.w) A (eval (.Name x np) k.env) (fun c s1=>wpAny (model k.c.prog k.c.w) A (excMatches (.ref ea) c) Q1 E' s1) E' s:=by
 obtain⟨G,S,V,F⟩:=W
 obtain⟨g1,g2⟩:=glob_ok (k:=k) hg hsc
 obtain⟨mg,m1,_,_,m3,_⟩:=O.F.glob
 have hgc:gnat x gCls=some 71:=by subst hx;decide
 refine p_glob (k:=k) (ρ:=ρ) (H:=H) g1 g2 m1 (m3 x 71 hgc) ⟨G,S,V⟩ ?_
 have hC:=O.F.stop.cls.c71
 obtain⟨_,_,oe,vs,dx,md,f3,f4,_⟩:=F
 obtain⟨h',g',d',t',os'⟩:=s
 exact wpAny_excMatches_sub_self ((S.keep _ _ (O.F.inK _ _ hC)).2) f3 f4 (by decide) h
theorem aw_obj {ea:Nat} {n:AV} {m:TbM} (W:k.Aw ρ H ea n m s):H ea=none∧k.St ρ (upd H ea (.exc n)) s:=by
 obtain⟨G,S,V,F⟩:=W
 obtain⟨f1,f2,oe,vs,dx,md,f3,f4,f5,f6,f7,f8,f9,f10,f11⟩:=F
 have hn:H ea=none:=by
  cases hq:H ea with
  | none=>rfl
  | some ao=>have:=(S.hv _ _ hq).1;rw [f1] at this;exact absurd this.symm (kd_ne (fun q=>nomatch q) (fun q=>nomatch q))
 have g:∀ a,G a≠.exc→gset G ea .obj a=G a:=fun a h=>gset_ne fun q=>h (by rw [q,f1])
 have gk:∀ a x,G a=x→x≠.exc→gset G ea .obj a=x:=fun a x e n=>(g a (by rw [e];exact n)).trans e
 refine⟨hn,gset G ea .obj,⟨fun b o e=>⟨gk _ _ (S.keep b o e).1 (fun q=>nomatch q),(S.keep b o e).2⟩,fun a ha=>?_,fun a ao e=>?_,fun p hp=>⟨gk _ _ (S.pv p hp).1 (fun q=>nomatch q),(S.pv p hp).2⟩,fun x hx=>?_,S.gens,S.drawn,S.os⟩,V.step (fun a e=>gk _ _ e (fun q=>nomatch q)) (fun x ca zz e=>?_) fun a o zz e=>e⟩
 ·by_cases q:a=ea
  ·subst q;exact⟨oe,f3⟩
  ·rw [gset_ne q] at ha;exact S.ex a ha
 ·unfold upd at e
  split at e
  ·rename_i q;subst q;cases e
   obtain⟨y,f11,f12⟩:=f11
   exact⟨gset_eq,oe,dx,md,f3,f4,f5,notCls_fields f6,gk _ _ f9 (fun q=>nomatch q),f10,f2,y,f11,f12⟩
  ·have q:=S.hv a ao e
   exact⟨gk _ _ q.1 (kd_ne (fun q=>nomatch q) (fun q=>nomatch q)),q.2.keep (fun zz zz zz e=>e) fun b e=>gk _ _ e (fun q=>nomatch q)⟩
 ·obtain⟨h1,L,o,h2,h3,h4⟩:=S.frs x hx
  exact⟨h1,L,o,h2,h3.imp (fun e=>gk _ _ e (fun q=>nomatch q)) (fun e=>gk _ _ e (fun q=>nomatch q)),h4⟩
 ·by_cases q:ca=ea
  ·rw [q,gset_eq] at e;cases e
  ·rwa [gset_ne q] at e
theorem lset_lset:∀ {l:List AV} {i:Nat} {a b:AV},lset (lset l i a) i b=lset l i b
 | [],_,_,_=>rfl
 | _::_,0,_,_=>rfl
 | x::l,i+1,a,b=>by show x::lset (lset l i a) i b=x::lset l i b;rw [lset_lset]
theorem ss_try {f:Str} {np hp pos:Pos} {b h:List Stmt} {b' h':ISs} {name:Option Str} {bind:Option Nat} (hg:isG sc nm f=true) (hf:f = "SearchStopped") (hh:h≠[]) (hb:SSs K T calls sc nm b b') (hhs:SSs K T calls sc nm h h')
  (hbind:match name,bind with | none,none=>True | some v,some i=>idx v nm=some i∧sc.lookup v=some .local | _,_=>False) :
  SS K T calls sc nm (.Try b [.ExceptHandler (some (.Name f np)) name h hp] [] [] pos) (.tryStop b' bind h'):=by
 intro k O hsc hnm ρ H s Q X S hv
 obtain⟨hhd,hv⟩:=hv
 obtain⟨outer,L,frm,hfr⟩:=O.frm
 refine wpAny_Try_except (wpAny_mono (hb k O hsc hnm ρ H s _ _ S hv) (fun fl s1 hq=>?_) fun e s1 he=>?_)
 ·obtain⟨fl',ρ1,H1,hfl,S1,hq⟩:=hq
  cases hfl with
  | next=>exact wpAny_execs_nil (rf_mk .next S1 hq)
  | brk=>exact rf_mk .brk S1 hq
  | cont=>exact rf_mk .cont S1 hq
  | ret hv'=>exact rf_mk (.ret hv') S1 hq
 ·obtain⟨ea,n,ρ1,H1,m,rfl,W,hm,hx⟩:=xs_aw he
  refine p_note frm hfr O.ok.frames W hm fun s2 W2=>?_
  refine p_flight0 W2 fun s3 W3=>?_
  refine wpAny_handleBy_cons (codeAny_handlers_test ?_) (by intro q;cases q)
  refine isStop O.ok hg hf hsc W3 ?_
  show codeAny _ _ _ _ s3
  have Oh:=Ok_handler O (.ref ea)
  cases h with
  | nil=>exact absurd rfl hh
  | cons st0 suite =>
   cases name with
   | none =>
    cases bind with
    | some i=>exact hbind.elim
    | none =>
     refine codeAny_handlers_suite (p_flight0' (k:=k.handler calls (.ref ea)) (h_Aw W3) fun s4 W4=>?_)
     have hx':=hx ea (aw_obj W4).1
     obtain⟨G4,S4,V4,F4⟩:=W4
     exact wpAny_mono (hhs (k.handler calls (.ref ea)) Oh hsc hnm ρ1 H1 s4 Q (fun zz zz zz=>False) ⟨G4,S4,V4⟩ hx') (fun fl s5 ⟨a,b,c,d,S5,g⟩=>⟨a,b,c,d,h_St.1 S5,g⟩) fun e s5 h5=>(XS_false h5).elim
   | some v =>
    cases bind with
    | none=>exact hbind.elim
    | some i =>
     obtain⟨hi,hl⟩:=hbind
     refine codeAny_handlers_suite_as (p_flight0' (k:=k.handler calls (.ref ea)) (h_Aw W3) fun s4 W4=>?_)
     obtain⟨hn,S4⟩:=aw_obj W4
     have hx':=hx ea hn
     have hi':idx v (k.handler calls (.ref ea)).nm=some i:=by show idx v k.nm=some i;rw [hnm];exact hi
     have hi2:idx v k.nm=some i:=by rw [hnm];exact hi
     have hl2:k.env.kindOf v=some .local:=by show k.env.scope.names.lookup v=_;rw [hsc];exact hl
     refine p_storeN (k:=k.handler calls (.ref ea)) hi' (mem_ws Oh hi') (.ref ea) S4 fun s5 S5=>?_
     refine wpAny_mono (hhs (k.handler calls (.ref ea)) Oh hsc hnm _ _ s5 _ (fun zz zz zz=>False) S5 hx') (fun fl s6 h6=>?_) fun e s6 h6=>(XS_false h6).elim
     obtain⟨fl',ρ6,H6,hfl,S6,hq6⟩:=h6
     have S6':k.St ρ6 H6 s6:=h_St.1 S6
     show wpAny _ _ (do bindName k.env v .none;unbindBehindTheSuite k.env v hp) (fun zz s7=>k.RF Q fl s7) _ s6
     have hlt:i < ρ6.length:=by
      obtain⟨_,_,V6⟩:=S6'
      rw [V6.len];exact idx_lt hi2
     refine wpAny_bind (p_store hi2 (mem_ws O hi2) .none S6' fun s7 S7=>?_)
     unfold unbindBehindTheSuite
     refine wpAny_onRaise (p_unbind hi2 hl2 (by rw [lget_lset_eq hlt];exact fun q=>nomatch q) S7 fun s8 S8=>?_)
     refine⟨fl',_,H6,hfl,S8,?_⟩
     rw [lset_lset];exact hq6
end
end Bm
namespace Bm
open PySem PySem.W PyProof.Rows PySem.SeqAt PySem.MeetsSeq
section
variable {prog:Program} {w:World} {A:Around} {E:Value→Shared→Prop} {s:Shared} {K:Frag} {env:Env}
theorem ev_loc {M:Model} {x:Str} {pos:Pos} {m:Str→Option Value} {v:Value} {Q:Value→Shared→Prop} (hk:env.scope.kind=.function) (hl:env.kindOf x=some .local) (hn:s.heap.Ns env.locals m) (hv:m x=some v) (hd:x≠"__debug__") (h:Q v s):wpAny M A (eval (.Name x pos) env) Q E s :=
 wpAny_Name (wpAny_loadName_local hk hl hn hv h) (by simpa using hd)
theorem base_init (C:ExcCls K) (X:K.In s.heap) {ea ta:Nat} {v:Value} {Q:Value→Shared→Prop} (he:s.heap.get? ea=some (excObj ta none))
  (h:∀ h' t',h'.get? ea=some (excObj t' none)→(∀ b o,b≠ea→s.heap.get? b=some o→h'.get? b=some o)→Q .none { s with heap:=h' }) :
  wpAny (model prog w) A (call (.builtin "Exception.__init__") [.ref ea,v]) Q E s:=by
 have hC:=X _ _ C.c71
 have F:=PySem.F.excBase_Exception
 have hcB:(Value.ref 71::Value.ref 38::bmE).contains (.type "Exception")=true:=by decide
 have hshort:=F.noStar
 obtain⟨hp,g,d,t,os⟩:=s
 dsimp only at he hC h
 have chk:∀ {Q:Unit→Shared→Prop},Q () ⟨hp,g,d,t,os⟩→wpAny (model prog w) A.in1 (checkBuiltinCall "Exception.__init__" ⟨.ref ea::[v],[]⟩) Q E ⟨hp,g,d,t,os⟩:=by
  intro Q hq
  simp only [checkBuiltinCall,F.initKind,F.initSplit,F.initRow]
  repeat (first | (with_reducible refine wpAny_loadPart_at he ?_;dsimp only [excObj]) | with_reducible refine wpAny_loadPart_at hC ?_ | (with_reducible refine wpAny_isSubtype_exc hC ?_;rw [hcB]) | wp_step)
  exact hq
 refine wpAny_call (codeAny_call_builtin F.init.plain F.initEntry (chk ?_))
 wp_walk
 show Q .none _
 have he':(hp.push { cls:=.type "tuple",data:=.seq #[v] }).get? ea=some (excObj ta none):=Heap.get?_push_of_some _ he
 refine h _ hp.objs.size ?_ fun b o hb e=>?_
 ·rw [Heap.get?_update_self _ he' rfl];rfl
 ·rw [Heap.get?_update_other _ _ (Ne.symm hb)];exact Heap.get?_push_of_some _ e
theorem raw_call {f:Nat} {ps:List Str} {scope:Scope} {body:List Stmt} (C:RawFn K f ps scope body) (X:K.In s.heap) (hlim:s.heap.NoLimit) (room:A.depth < recursionLimit) {vs:List Value} (hl:vs.length=ps.length) {R:Result→Shared→Prop}
  (h:∀ env h₀ tk,env.scope=scope→env.globals=mainGlobals→env.builtins=builtinsNs→env.frame=some env.locals→env.locals=s.heap.objs.size→h₀.Ns env.locals (fun x=>(ps.zip vs).reverse.lookup x)→(∀ b o,s.heap.get? b=some o→h₀.get? b=some o) →
   wpAny (model prog w) (A.deeper env) (execs body env) (fun fl s'=>R (.ok (.ret (match fl with | .ret v=>v | _=>.none))) s') (fun zz zz=>False) { s with heap:=h₀,toks:=tk }) :
  codeAny (model prog w) A (.call (.ref f) ⟨vs,[]⟩) R s:=by
 obtain⟨fd,c,d,sl,hk,hb,hsc,hcl,hg,hbl,hp,hpp,hcd,hdf⟩:=C.at_
 subst hsc
 have hdf':fd.defaults=.none∨∃ D o xs n,fd.defaults=.ref D∧s.heap.get? D=some o∧o.data=.seq xs n:=hdf.imp id fun⟨D,e,c,d,xs,n,sl,hD⟩=>⟨D,_,xs,n,e,X _ _ hD,rfl⟩
 refine codeAny_call_function room (X _ _ hk) rfl C.cor C.gen hb (codeRec_of X hcd) ?_
 refine bind_exact hpp hdf' (by rw [hp];exact hl) (by rw [hp];exact C.nd) ?_
 rw [hcl,hp]
 refine wpAny_newFunctionEnv C.noCell (fun x hx=>C.loc x.1 (List.of_mem_zip (a:=x.1) (b:=x.2) hx).1) (fun h₀ hns hsb=>⟨hlim.fresh _ hsb,codeAny_func ?_⟩) C.kind
 refine wpAny_mono (h (newEnv fd.scope s.heap.objs.size fd.globals [] (fd.qualname++".<locals>.") (some f) fd.code none fd.builtins) h₀ _ rfl hg hbl rfl rfl hns fun b o e=>hsb.extBut b o (Nat.ne_of_lt (Heap.lt_size e)) (Heap.get?_push_of_some _ e)) (fun zz zz x=>x) fun zz zz f=>f.elim
theorem ns_but {h h':Heap} {a ea:Nat} {m:Str→Option Value} {ta:Nat} {dx:Option Nat} (hn:h.Ns a m) (he:h.get? ea=some (excObj ta dx)) (k:∀ b o,b≠ea→h.get? b=some o→h'.get? b=some o):h'.Ns a m:=by
 obtain⟨o,es,ep,ho,hd,r⟩:=hn
 refine⟨o,es,ep,k a o (fun q=>?_) ho,hd,r⟩
 rw [q,he] at ho;cases ho;cases hd
theorem in_but {h h':Heap} {ea:Nat} (X:K.In h) (hK:K.lookup ea=none) (k:∀ b o,b≠ea→h.get? b=some o→h'.get? b=some o):K.In h':=fun a o e=>k a o (fun q=>by rw [q,hK] at e;cases e) (X a o e)
theorem set_stmt {M:Model} {x:Str} {p1 p2 p3 p4:Pos} {m:Str→Option Value} {ea:Nat} {v:Value} {Q:Flow→Shared→Prop} {E:Value→Shared→Prop} {attr:Str} (hk:env.scope.kind=.function) (hl:env.kindOf "self" = some .local) (hlx:env.kindOf x=some .local) (hx:x≠"__debug__")
  (hn:s.heap.Ns env.locals m) (hs:m "self" = some (.ref ea)) (hv:m x=some v) (h:wpAny M A (setAttr (.ref ea) attr v) (fun zz s'=>Q .next s') E s) :
  wpAny M A (exec (.Assign [.Attribute (.Name "self" p1) attr p2] (.Name x p3) p4) env) Q E s:=by
 rw [arm_exec_Assign]
 refine wpAny_bind (wpAny_standAt ?_)
 show wpAny _ _ (swapsWith (.Name x p3) (some (.Attribute (.Name "self" p1) attr p2)) p4.line env >>= _) _ _ s
 rw [no_swap rfl]
 refine wpAny_bind (wpAny_pure ?_)
 rw [if_neg Bool.false_ne_true]
 refine wpAny_bind (ev_loc hk hlx hn hv hx ?_)
 rw [no_swapA]
 refine wpAny_bind (wpAny_pure (wpAny_bind ?_))
 show wpAny _ _ (assign (.Attribute (.Name "self" p1) attr p2) env v) _ _ s
 rw [arm_assign_Attribute]
 refine wpAny_bind (wpAny_holding (ev_loc hk hl hn hs (by decide) ?_))
 refine wpAny_bind (wpAny_standAt (wpAny_bind (wpAny_holding (wpAny_mono h (fun zz s' hq=>?_) fun zz zz e=>e))))
 exact wpAny_release' (wpAny_pure hq)
theorem type_E:typeOf (.type "Exception")=pure (.type "type"):=by kernel_rfl
theorem stub_E:Manifest.isStub "Exception" = false:=by decide +kernel
theorem method_E (C:ExcCls K) (X:K.In s.heap) {pl:Sem Bool} {Q:Value×List Value→Shared→Prop} (h:Q (.builtin "Exception.__init__",[]) { s with toks:=s.toks+1 }):wpAny (model prog w) A (getMethod (.type "Exception") "__init__" pl) Q E s:=by
 have hstub:opaqueClassAbove (.type "Exception")=pure none:=by unfold opaqueClassAbove;dsimp only;rw [stub_E];rfl
 have L0:Looks (model prog w) s.heap (typeOf (.type "Exception")) (.type "type"):=Looks.of_pure type_E
 have hg:findIn K (.type "type") "__getattribute__" = some (some (.builtin "type.__getattribute__")):=type_tga
 unfold getMethod specialOf
 refine wpAny_bind (wpAny_bind (L0.here ((looks_findIn X hg).here ?_)))
 dsimp only
 rw [if_pos canon_tga]
 refine wpAny_bind (wpAny_mono (Q:=fun v=>Q (v,[])) (E:=E) ?_ (fun zz zz z=>wpAny_pure z) fun zz zz z=>z)
 have LO:Looks (model prog w) s.heap (opaqueClassAbove (.type "Exception")) none:=Looks.of_pure hstub
 refine cls_open X LO L0 hg (looks_hook X (r:=none) (by rfl)) (by show subIn K _ _=_;rfl) C.fE
  (wpAny_pure (by show wpAny _ _ (handedOut (.builtin "Exception.__init__")) _ _ _;rw [handedOut_of (by rfl)];exact wpAny_pure h))
theorem call_stmt {M:Model} {b:Str} {p1 ap p2 cp p3:Pos} {e:Expr} {Q:Flow→Shared→Prop} {ov:Value} {fx:Value×List Value} {av:Value} {ea:Nat} {m:Str→Option Value} {tk:Tok} (hk:env.scope.kind=.function) (hl:env.kindOf "self" = some .local) (hp:ap.endLine=cp.line) (hst:isStar e=false)
  (hself:m "self" = some (.ref ea)) (hov:∀ {Q:Value→Shared→Prop},Q ov s→wpAny (model prog w) A (eval (.Name b p1) env) Q E s)
  (hgm:∀ {Q:Value×List Value→Shared→Prop} {pl:Sem Bool},Q fx { s with toks:=s.toks+1 }→wpAny (model prog w) A (getMethod ov "__init__" pl) Q E s)
  (hn:s.heap.Ns env.locals m) (hcw:∀ {args:List (Bool×Sem Value)},args=backTo cp (starEach [.Name "self" p2,e] env)→∀ {Q:Value→Shared→Prop},wpAny (model prog w) A (spliced args) (fun vs s'=>s'.heap=s.heap∧wpAny (model prog w) A (call fx.1 (fx.2++vs) []) Q E s') E { s with toks:=s.toks+1 }→wpAny (model prog w) A (callWith cp fx.1 fx.2 args []) Q E { s with toks:=s.toks+1 })
  (harg:∀ {Q:Value→Shared→Prop},Q av { s with toks:=tk }→wpAny (model prog w) A (eval e env) Q E { s with toks:=s.toks+1 })
  (h:wpAny (model prog w) A (call fx.1 (fx.2++[.ref ea,av]) []) (fun zz s'=>Q .next s') E { s with toks:=tk }) :
  wpAny (model prog w) A (exec (.Expr (.Call (.Attribute (.Name b p1) "__init__" ap) [.Name "self" p2,e] [] cp) p3) env) Q E s:=by
 rw [arm_exec_Expr]
 have hi:interactive env=false:=by unfold interactive;rw [hk];rfl
 rw [hi]
 refine wpAny_bind (wpAny_standAt ?_)
 rw [if_neg Bool.false_ne_true]
 refine wpAny_bind (wpAny_of_eq (no_swap rfl) ?_)
 rw [if_neg Bool.false_ne_true]
 have hs:[Expr.Name "self" p2,e].all (fun e=>!isStar e)=true:=by rw [List.all_cons,List.all_cons,List.all_nil,hst];rfl
 rw [eval_meth rfl hs (by show 2 < 20;decide) hp]
 refine wpAny_bind (wpAny_bind (hov ?_))
 refine wpAny_bind (wpAny_standAt (wpAny_bind (wpAny_holding (hgm ?_))))
 refine wpAny_bind (wpAny_pure ?_)
 refine hcw rfl ?_
 rw [starEach_cons rfl,backTo_cons,starEach_cons hst,backTo_cons]
 unfold spliced
 refine wpAny_bind (ev_loc hk hl (m:=m) hn hself (by decide) ?_)
 refine wpAny_bind (wpAny_pure (wpAny_bind (wpAny_holding ?_)))
 unfold spliced
 refine wpAny_bind (harg ?_)
 refine wpAny_bind (wpAny_pure (wpAny_bind (wpAny_holding ?_)))
 show wpAny _ _ (pure _) _ _ _
 refine wpAny_pure (wpAny_pure (wpAny_pure ⟨rfl,?_⟩))
 refine wpAny_mono h (fun v s' hq=>wpAny_dropValue hq) fun zz zz e=>e
theorem init35 (C:ExcCls K) (X:K.In s.heap) (hlim:s.heap.NoLimit) (room:A.depth < recursionLimit) {mg mb:Str→Option Value} (hg:s.heap.Ns mainGlobals mg) (hgE:mg "Exception" = none) (hb:s.heap.Ns builtinsNs mb) (hbE:mb "Exception" = some (.type "Exception"))
  (M:MkOk K 35 "Exception" "text" (ArgN "text")) {ea ta:Nat} (heK:K.lookup ea=none) (he:s.heap.get? ea=some (excObj ta none)) {tv:Value} {Rr:Result→Shared→Prop}
  (h:∀ h' tk dx t',h'.get? ea=some (excObj t' (some dx))→h'.Ns1 dx (fun y=>if y = "text" then some tv else none)→s.heap.get? dx=none→dx≠ea→(∀ b o,b≠ea→s.heap.get? b=some o→h'.get? b=some o)→Rr (.ok (.ret .none)) { s with heap:=h',toks:=tk }) :
  codeAny (model prog w) A (.call (.ref 35) ⟨[.ref ea,tv],[]⟩) Rr s:=by
 obtain⟨scope,body,R,⟨p1,ap,p2,_,cp,p3,p4,p5,p6,p7,rfl,rfl,rfl,rfl,rfl,rfl,hp,⟨py⟩⟩,hgk⟩:=M
 refine raw_call R X hlim room rfl fun env h₀ tk esc egl ebl efr eL hns keep=>?_
 have hk:env.scope.kind=.function:=by rw [esc];exact R.kind
 have hl:env.kindOf "self" = some .local:=by show env.scope.names.lookup _=_;rw [esc];exact R.loc _ (.head _)
 have hlt:env.kindOf "text" = some .local:=by show env.scope.names.lookup _=_;rw [esc];exact R.loc _ (.tail _ (.head _))
 have hgk':env.kindOf "Exception" = some .globalImplicit:=by show env.scope.names.lookup _=_;rw [esc];exact hgk
 have ms:(fun x=>((["self","text"]:List Str).zip [Value.ref ea,tv]).reverse.lookup x) "self" = some (.ref ea):=rfl
 have mt:(fun x=>((["self","text"]:List Str).zip [Value.ref ea,tv]).reverse.lookup x) "text" = some tv:=rfl
 generalize (fun x=>((["self","text"]:List Str).zip [Value.ref ea,tv]).reverse.lookup x)=m at hns ms mt
 have he₀:h₀.get? ea=some (excObj ta none):=keep _ _ he
 have X₀:K.In h₀:=X.keeps keep
 refine wpAny_execs_cons ?_
 refine call_stmt (ov:=.type "Exception") (fx:=(.builtin "Exception.__init__",[])) (av:=tv) (M:=model prog w) (tk:=tk+1) hk hl hp rfl ms (fun hq=>?_) (fun hq=>method_E C X₀ hq) hns (fun {args} ea' {Q} hq=>?_) (fun hq=>ev_loc hk hlt (m:=m) hns mt (by decide) hq) ?_
 ·refine Calls.Name_function_global hk hgk' (Calls.loadGlobal_builtin (mg:=mg) (mb:=mb) ?_ hgE ?_ hbE hq) (by decide)
  ·rw [egl];exact hg.keeps keep
  ·rw [ebl];exact hb.keeps keep
 ·subst ea'
  exact with_B (by simp [isStar]) (wpAny_mono hq (fun zz zz x=>x.2) fun zz zz e=>e)
 ·refine base_init (s:={ s with heap:=h₀,toks:=tk+1 }) C X₀ he₀ fun h₁ t' he₁ keep₁=>?_
  show wpAny _ _ (execs _ env) _ _ _
  refine wpAny_execs_cons ?_
  obtain⟨cd,c1,c2,c3⟩:=C.cd
  have hns₁:h₁.Ns env.locals m:=ns_but hns he₀ keep₁
  refine set_stmt (s:={ s with heap:=h₁,toks:=tk+1 }) (m:=m) hk hl hlt (by decide) hns₁ ms mt ?_
  refine exc_set0 (s:={ s with heap:=h₁,toks:=tk+1 }) (in_but X₀ heK keep₁) he₁ rfl rfl rfl c1 c2 c3 C.sa C.aText fun h₂ tk₂ he₂ hn₂ keep₂=>?_
  refine wpAny_execs_nil ?_
  have hne:h₁.objs.size≠ea:=Nat.ne_of_gt (Heap.lt_size he₁)
  refine h h₂ tk₂ h₁.objs.size t' he₂ hn₂ ?_ hne fun b o hb e=>keep₂ b o hb (keep₁ b o hb (keep b o e))
  cases hq:s.heap.get? h₁.objs.size with
  | none=>rfl
  | some o=>exact absurd (Heap.lt_size (keep₁ _ _ hne (keep _ _ hq))) (Nat.lt_irrefl _)
set_option tactic.hygienic true in
theorem init68 (C:ExcCls K) (X:K.In s.heap) (hlim:s.heap.NoLimit) (room:A.depth+1 < recursionLimit) {mg mb:Str→Option Value} (hg:s.heap.Ns mainGlobals mg) (hgE:mg "Exception" = none) (hgC:mg "ChessError" = some (.ref 38)) (hb:s.heap.Ns builtinsNs mb) (hbE:mb "Exception" = some (.type "Exception"))
  (M:MkOk K 35 "Exception" "text" (ArgN "text")) (M':MkOk K 68 "ChessError" "nodes" ArgS)
  {ea ta:Nat} (heK:K.lookup ea=none) (he:s.heap.get? ea=some (excObj ta none)) {nv:Value} {Rr:Result→Shared→Prop}
  (h:∀ h' tk dx t',h'.get? ea=some (excObj t' (some dx))→(∃ m',h'.Ns dx m'∧m' "nodes" = some nv)→s.heap.get? dx=none→dx≠ea→(∀ b o,b≠ea→s.heap.get? b=some o→h'.get? b=some o)→Rr (.ok (.ret .none)) { s with heap:=h',toks:=tk }) :
  codeAny (model prog w) A (.call (.ref 68) ⟨[.ref ea,nv],[]⟩) Rr s:=by
 obtain⟨scope',body',R',⟨p1,ap,p2,_,cp,p3,p4,p5,p6,p7,rfl,rfl,rfl,rfl,rfl,rfl,hp,⟨y,py,pz⟩⟩,hgk'⟩:=M'
 refine raw_call R' X hlim (by lia) rfl fun env h₀ tk esc egl ebl efr eL hns keep=>?_
 have hk:env.scope.kind=.function:=by rw [esc];exact R'.kind
 have hl:env.kindOf "self" = some .local:=by show env.scope.names.lookup _=_;rw [esc];exact R'.loc _ (.head _)
 have hlt:env.kindOf "nodes" = some .local:=by show env.scope.names.lookup _=_;rw [esc];exact R'.loc _ (.tail _ (.head _))
 have hgk2:env.kindOf "ChessError" = some .globalImplicit:=by show env.scope.names.lookup _=_;rw [esc];exact hgk'
 have ms:(fun x=>((["self","nodes"]:List Str).zip [Value.ref ea,nv]).reverse.lookup x) "self" = some (.ref ea):=rfl
 have mt:(fun x=>((["self","nodes"]:List Str).zip [Value.ref ea,nv]).reverse.lookup x) "nodes" = some nv:=rfl
 generalize (fun x=>((["self","nodes"]:List Str).zip [Value.ref ea,nv]).reverse.lookup x)=m at hns ms mt
 have he₀:h₀.get? ea=some (excObj ta none):=keep _ _ he
 have X₀:K.In h₀:=X.keeps keep
 refine wpAny_execs_cons ?_
 refine call_stmt (ov:=.ref 38) (fx:=(.ref 35,[])) (av:=.str y (tk+1)) (M:=model prog w) (tk:=tk+1+1) hk hl hp rfl ms (fun hq=>?_) (fun hq=>?_) hns (fun {args} ea' {Q} hq=>?_) (fun hq=>wpAny_Constant_str hq) ?_
 ·refine Calls.Name_function_global hk hgk2 (Calls.loadGlobal_global (mg:=mg) ?_ hgC hq) (by decide)
  rw [egl];exact hg.keeps keep
 ·exact method_cls (s:={ s with heap:=h₀,toks:=tk }) X₀ C.g38 (cls_value X₀ C.r38 C.f38 (by rfl) hq)
 ·subst ea'
  exact with_K C.k35 (by simp [isStar]) (wpAny_mono hq (fun zz s' x=>⟨by rw [x.1];exact X₀,x.2⟩) fun zz zz e=>e)
 ·refine wpAny_call (init35 (s:={ s with heap:=h₀,toks:=tk+1+1 }) C X₀ (hlim.keeps keep) room (hg.keeps keep) hgE (hb.keeps keep) hbE M heK he₀ fun h₁ tk₁ dx t' he₁ hn₁ hdx hne keep₁=>?_)
  refine wpAny_execs_cons ?_
  obtain⟨cd,c1,c2,c3⟩:=C.cd
  have hns₁:h₁.Ns env.locals m:=ns_but hns he₀ keep₁
  refine set_stmt (s:={ s with heap:=h₁,toks:=tk₁ }) (m:=m) hk hl hlt (by decide) hns₁ ms mt ?_
  refine exc_set1 (s:={ s with heap:=h₁,toks:=tk₁ }) (in_but X₀ heK keep₁) he₁ rfl rfl rfl hn₁ (Within.cons "text" _ Within.nil) (by decide) c1 c2 c3 C.sa C.aNodes fun h₂ tk₂ hn₂ hs₂=>?_
  refine wpAny_execs_nil ?_
  have hdx0:s.heap.get? dx=none:=by
   cases hq:s.heap.get? dx with
   | none=>rfl
   | some o=>rw [keep _ _ hq] at hdx;cases hdx
  refine h h₂ tk₂ dx t' ((hs₂.2 ea hne.symm).trans he₁) ⟨_,hn₂.ns,if_pos rfl⟩ hdx0 hne fun b o hb e=>?_
  have hbd:b≠dx:=fun q=>by rw [q,hdx0] at e;cases e
  exact(hs₂.2 b hbd).trans (keep₁ b o hb (keep b o e))
section
variable {h:Heap} {g:Array GenState} {d:Drawn} {t:Nat} {os:OsState} {M:Model} {nm q:Str} {N:Addr} {bs:List Value} {sn:List Str} {sub:List Value} {ab:Bool} {col:Option Bool} {dd:Option Addr} {k0 k1 k2 k3 k5:Option Value} {R:Result→Shared→Prop}
theorem new_check {rest:List Value} {Q:Unit→Shared→Prop} (hC:h.get? 71=some (excClassObj nm q 71 N bs (.ref 38::bmE) true sn sub ab col dd k0 k1 k2 k3 k5 "Exception.__new__"))
  (hq:Q () ⟨h,g,d,t,os⟩):wpAny M A (checkBuiltinCall "Exception.__new__" ⟨.ref 71::rest,[]⟩) Q E ⟨h,g,d,t,os⟩:=by
 have F:=PySem.F.excBase_Exception
 have hcont:(Value.ref 71::Value.ref 38::bmE).contains (.type "Exception")=true:=by decide
 have hstar:=F.noStar
 simp only [checkBuiltinCall,F.newKind,F.newSplit,F.newRow]
 repeat (first | refine wpAny_loadPart_at hC ?_ | (refine wpAny_isSubtype_exc hC ?_;rw [hcont]) | refine wpAny_staticBase_exc hC ?_ | refine wpAny_madeBy_exc hC ?_ | simp only [bne_self_eq_false,Bool.false_eq_true,if_false] | wp_step)
 exact hq
theorem new_run {v:Value} (hC:h.get? 71=some (excClassObj nm q 71 N bs (.ref 38::bmE) true sn sub ab col dd k0 k1 k2 k3 k5 "Exception.__new__"))
  (hq:R (.ok (.ret (.ref (h.objs.size+1)))) ⟨(h.push { cls:=.type "tuple",data:=.seq #[v] }).push (excObj h.objs.size none),g,d,t,os⟩) :
  codeAny (model prog w) A (.builtin "Exception.__new__" ⟨.ref 71::[v],[]⟩) R ⟨h,g,d,t,os⟩:=by
 have F:=PySem.F.excBase_Exception
 have hends:=F.ends
 have hcB:(Value.ref 71::Value.ref 38::bmE).contains (.type "Exception")=true:=by decide
 have hcA:(Value.ref 71::Value.ref 38::bmE).contains (.type "AttributeError")=false:=by decide
 have hcN:(Value.ref 71::Value.ref 38::bmE).contains (.type "NameError")=false:=by decide
 refine codeAny_builtinAt F.entry ?_
 unfold Builtin.«BaseException.__new__»
 refine PySem.wpAt_bind ?_
 show PySem.wpAt _ _ _ (stack >>= _) _ _ _
 refine PySem.wpAt_bind (PySem.wpAt_stack fun p below=>PySem.wpAt_of_wpAny ?_)
 wp_walk
 refine PySem.wpAt_of_wpAny ?_
 rw [F.owner]
 repeat (first | with_reducible refine wpAny_madeHere_exc F.canon hC ?_ | with_reducible refine wpAny_loadPart_at hC ?_ | (with_reducible refine wpAny_isSubtype_exc hC ?_;first | rw [hcB] | rw [hcA] | rw [hcN]) | wp_step)
 show R _ _
 rw [Heap.size_push]
 exact hq
end
theorem make71 (C:ExcCls K) (X:K.In s.heap) {v:Value} {R:Result→Shared→Prop}
  (h:codeAny (model prog w) (A.under (.builtin "type.__call__" ⟨.ref 71::[v],[]⟩)) (.call (.ref 68) ⟨[.ref (s.heap.objs.size+1),v],[]⟩)
   (fun r s'=>match r with | .ok (.ret u)=>u=.none∧R (.ok (.ret (.ref (s.heap.objs.size+1)))) s' | .ok _=>False | .error e=>R (.error e) s') { s with heap:=(s.heap.push { cls:=.type "tuple",data:=.seq #[v] }).push (excObj s.heap.objs.size none) }) :
  codeAny (model prog w) A (.call (.ref 71) ⟨[v],[]⟩) R s:=by
 have hC:=X _ _ C.c71
 have F:=PySem.F.excBase_Exception
 have f1:=tc_lookup
 have f2:=tc_bind (.ref 71)
 obtain⟨hp,g,d,t,os⟩:=s
 dsimp only at hC h X
 have hT:(⟨hp,g,d,t,os⟩:Shared).TypeIs (.ref 71) "type":=⟨_,hC,rfl⟩
 refine codeAny_of_tree ?_
 show wpAny _ _ (callAny (.ref 71) _) _ _ _
 repeat (any_goals (first | assumption | with_reducible refine wpAny_loadPart_at hC ?_ | wp_step))
 refine⟨rfl,?_⟩
 refine codeAny_call_builtin_at (Code.quiet_builtin _ (by decide +kernel)) entry_typeCall (wpAny_check_type_call_sub hC ?_)
 repeat (first | with_reducible refine wpAny_loadPart_at hC ?_ | with_reducible refine wpAny_madeBy_exc hC ?_ | wp_step)
 refine codeAny_call_builtin_code (Code.quiet_builtin _ F.quiet) (new_check hC ?_)
 refine new_run hC ?_
 show wpAny _ _ _ _ _ _
 have k:∀ b o,hp.get? b=some o→((hp.push { cls:=.type "tuple",data:=.seq #[v] }).push (excObj hp.objs.size none)).get? b=some o:=fun b o e=>Heap.get?_push_of_some _ (Heap.get?_push_of_some _ e)
 have hC₁:=k _ _ hC
 have X₁:K.In ((hp.push { cls:=.type "tuple",data:=.seq #[v] }).push (excObj hp.objs.size none)):=X.keeps k
 have hget:((hp.push { cls:=.type "tuple",data:=.seq #[v] }).push (excObj hp.objs.size none)).get? (hp.objs.size+1)=some (excObj hp.objs.size none):=by heap_get
 have hcC:(Value.ref 71::Value.ref 38::bmE).contains (.ref 71)=true:=by decide
 unfold isInstance
 repeat (first | with_reducible refine wpAny_loadPart_at hget ?_ | wp_step)
 show wpAny _ _ (isSubtype (.ref 71) (.ref 71)) _ _ _
 refine wpAny_isSubtype_exc hC₁ ?_
 rw [hcC,if_neg (by decide)]
 have L0:Looks (model prog w) ((hp.push { cls:=.type "tuple",data:=.seq #[v] }).push (excObj hp.objs.size none)) (typeOf (.ref (hp.objs.size+1))) (.ref 71):=(Looks.ld hget).andThen .now
 have L1:=looks_findIn (M:=model prog w) X₁ C.i71
 have L2:=bind_fn (M:=model prog w) X₁ (.ref (hp.objs.size+1)) C.t68
 refine wpAny_bind (wpAny_holding ?_)
 unfold callSpecial? specialOf
 refine wpAny_bind (wpAny_bind (L0.at (L1.at ?_)))
 dsimp only
 refine wpAny_holding (wpAny_bind (L2.at ?_))
 refine wpAny_bind (wpAny_call (codeAny_mono h fun r s' z=>?_))
 rcases r with e | (u | _ | _ | u) <;> first | exact z | exact z.elim | skip
 obtain⟨rfl,z⟩:=z
 exact wpAny_pure (wpAny_pure z)
end
end Bm
namespace Bm
open PySem PySem.W PyProof.Rows PySem.SeqAt PySem.MeetsSeq
section
variable {prog:Program} {w:World} {A:Around} {E:Value→Shared→Prop} {s:Shared} {env:Env} {M:Model}
theorem raise71 {nm q:Str} {N:Addr} {bs:List Value} {sn:List Str} {sub:List Value} {ab:Bool} {col:Option Bool} {dd:Option Addr} {k0 k1 k2 k3 k5:Option Value} {x:Sem Value} {Q:Flow→Shared→Prop}
  (h:wpAny M A x (fun v s₁=>A.handled=none∧∃ e t dx,v=.ref e∧s₁.heap.get? 71=some (excClassObj nm q 71 N bs (.ref 38::bmE) true sn sub ab col dd k0 k1 k2 k3 k5 "Exception.__new__") ∧
   s₁.heap.get? e=some (excObj t dx)∧E (.ref e) s₁) E s) :
  wpAny M A (raiseStmt env (some x) none) Q E s:=by
 have hcB:(Value.ref 71::Value.ref 38::bmE).contains (.type "BaseException")=true:=by decide
 unfold raiseStmt
 refine wpAny_bind (wpAny_mono h (fun v s₁ h₁=>?_) fun zz zz x=>x)
 obtain⟨hh,e,t,dx,rfl,hC,he,hE⟩:=h₁
 obtain⟨hp,g,d,tk,os⟩:=s₁
 unfold excObj at he
 repeat (first | with_reducible refine wpAny_loadPart_at he ?_ | with_reducible refine wpAny_loadPart_at hC ?_ | (with_reducible refine wpAny_isSubtype_exc hC ?_;rw [hcB]) | wp_step)
 exact wpAny_raiseNew_none hh hE
end
section
variable {k:Kx} {ρ:List AV} {H:AHeap} {s:Shared} {Q:SQ} {X:SX} {E:Value→Shared→Prop} {A:Around} {K:Frag} {M:Model} {sc:List (Str×NameKind)} {nm:List String} {T:Tab} {calls:Bool→CallSem}
theorem aw_new (S:k.St ρ H s) {h₁ h':Heap} {tk:Nat} {t' dx:Nat} {v:Value} {n:AV} (hn:isInt n=true) (hv:VR v n) (hk:∀ b o,s.heap.get? b=some o→h'.get? b=some o) (he:h'.get? (s.heap.objs.size+1)=some (excObj t' (some dx))) (hdx:∃ m',h'.Ns dx m'∧m' "nodes" = some v)
  (hd0:s.heap.get? dx=none) (hne:dx≠s.heap.objs.size+1):k.Aw ρ H (s.heap.objs.size+1) n .made { s with heap:=h',toks:=tk }:=by
 obtain⟨G,S1,V⟩:=S
 obtain⟨m',hns,hm⟩:=hdx
 have gE:G (s.heap.objs.size+1)=.free:=by
  cases hq:G (s.heap.objs.size+1) with
  | free=>rfl
  | _=>exact absurd (S1.lt _ (by rw [hq];exact fun e=>nomatch e)) (by omega)
 have gD:G dx=.free:=by
  cases hq:G dx with
  | free=>rfl
  | _ =>
   obtain⟨o,e⟩:=S1.ex dx (by rw [hq];exact fun e=>nomatch e)
   rw [hd0] at e;cases e
 obtain⟨od,es,ep,hod,_⟩:=id hns
 have g1:gset (gset G (s.heap.objs.size+1) .exc) dx (.dic (s.heap.objs.size+1)) dx=.dic (s.heap.objs.size+1):=gset_eq
 have g0:gset (gset G (s.heap.objs.size+1) .exc) dx (.dic (s.heap.objs.size+1)) (s.heap.objs.size+1)=.exc:=by rw [gset_ne (Ne.symm hne),gset_eq]
 have gk:∀ a,G a≠.free→gset (gset G (s.heap.objs.size+1) .exc) dx (.dic (s.heap.objs.size+1)) a=G a:=fun a ha=>by
  rw [gset_ne (fun q=>ha (by rw [q,gD])),gset_ne (fun q=>ha (by rw [q,gE]))]
 refine⟨gset (gset G (s.heap.objs.size+1) .exc) dx (.dic (s.heap.objs.size+1)),(S1.grow (tk:=tk) hk).rekind gk fun a ha=>?_,V.step (fun a e=>(gk a (by rw [e];exact fun q=>nomatch q)).trans e) (fun x ca zz e=>?_) (fun a o zz e=>hk a o e),g0,hn,_,_,dx,m',he,rfl,rfl,rfl,(by show 1 < 6;decide),rfl,g1,hns,v,hm,hv⟩
 ·by_cases q:a=dx
  ·rw [q];exact⟨_,hod⟩
  ·rw [gset_ne q] at ha
   by_cases q2:a=s.heap.objs.size+1
   ·rw [q2];exact⟨_,he⟩
   ·rw [gset_ne q2] at ha
    obtain⟨o,e⟩:=S1.ex a ha
    exact⟨o,hk a o e⟩
 ·by_cases q:ca=dx
  ·rw [q,g1] at e;cases e
  ·by_cases q2:ca=s.heap.objs.size+1
   ·rw [q2,g0] at e;cases e
   ·rw [gset_ne q,gset_ne q2] at e;exact e
theorem ss_raise {f:Str} {np cp pos:Pos} {a:Expr} {e:IE} (hg:isG sc nm f=true) (hf:f = "SearchStopped") (hs:isStar a=false) (ha:SE K sc nm a e):SS K T calls sc nm (.Raise (some (.Call (.Name f np) [a] [] cp)) none pos) (.raiseStop e):=by
 intro k O hsc hnm ρ H s Q X S h
 have eT:=O.t
 subst eT
 have h:vE k.T k.hd (calls k.hd) e ρ H _ _:=h
 rw [← O.call] at h
 have SO:=O.ok.F.stop
 have hC:=SO.cls.c71
 rw [arm_exec_Raise]
 refine wpAny_bind (wpAny_standAt ?_)
 show wpAny _ _ (raiseStmt k.env (some (do let v ← eval (.Call (.Name f np) [a] [] cp) k.env;standAt pos;pure v)) none) _ _ s
 have made:wpAny (model k.c.prog k.c.w) k.A (eval (.Call (.Name f np) [a] [] cp) k.env) (fun v s₁=>k.A.handled=none∧∃ ea t dx,v=.ref ea∧s₁.heap.get? 71=some o71 ∧
   s₁.heap.get? ea=some (excObj t dx)∧k.XS X (.ref ea) s₁) (k.XS X) s:=by
  rw [eval_CallName]
  obtain⟨g1,g2⟩:=glob_ok (k:=k) hg hsc
  obtain⟨mg,m1,_,_,m3,_,mE,mC⟩:=O.ok.F.glob
  obtain⟨mb,b1,_,_,_,_,_,_,bE⟩:=O.ok.F.built
  have hgc:gnat f gCls=some 71:=by subst hf;decide
  refine wpAny_bind (p_glob g1 g2 m1 (m3 f 71 hgc) S ?_)
  have hl:vEs k.T k.hd k.call (.cons e .nil) ρ H (fun vs H=>match vs with | [v]=>k.hd=false∧isInt v=true∧X v ρ H | _=>False) (fun n H=>X n ρ H):=by
   exact h
  refine with_K (O.ok.F.keepC f 71 hgc) (stars1 hs) (wpAny_mono (l_one hs ha k O.ok hsc hnm cp _ _ _ _ _ S hl) (fun vs s2 ⟨avs,H2,hn,hvs,S2,h2⟩=>?_) fun zz zz e=>XE_S e)
  cases hvs with
  | nil=>cases hn
  | @cons v av _ _ r t=>cases t with
   | cons=>cases hn
   | nil =>
    obtain⟨hhd,hint,hx⟩:=h2
    have hh:=O.ok.hand hhd
    obtain⟨G2,SC2,V2⟩:=id S2
    have X2:K.In s2.heap:=keepK O.ok.F SC2
    have lim2:s2.heap.NoLimit:=O.ok.F.nolim.keeps fun b o e=>(SC2.keep b o e).2
    refine⟨X2,?_⟩
    have kp:∀ b o,s2.heap.get? b=some o→((s2.heap.push { cls:=.type "tuple",data:=.seq #[v] }).push (excObj s2.heap.objs.size none)).get? b=some o:=fun b o e=>Heap.get?_push_of_some _ (Heap.get?_push_of_some _ e)
    have heK:K.lookup (s2.heap.objs.size+1)=none:=by
     cases hq:K.lookup (s2.heap.objs.size+1) with
     | none=>rfl
     | some o=>exact absurd (Heap.lt_size (X2 _ _ hq)) (Nat.not_lt.mpr (Nat.le_succ _))
    have room:(k.A.under (.builtin "type.__call__" ⟨.ref 71::[v],[]⟩)).depth+1 < recursionLimit:=by
     have:=O.ok.room.1;have e:=depth_under_kw k.A 71 [v] [];have e2:recursionLimit=1000:=rfl;omega
    have hget:((s2.heap.push { cls:=.type "tuple",data:=.seq #[v] }).push (excObj s2.heap.objs.size none)).get? (s2.heap.objs.size+1)=some (excObj s2.heap.objs.size none):=by heap_get
    refine wpAny_call (make71 SO.cls X2 (init68 (s:={ s2 with heap:=(s2.heap.push { cls:=.type "tuple",data:=.seq #[v] }).push (excObj s2.heap.objs.size none) }) SO.cls (X2.keeps kp) (lim2.keeps kp) room
     (m1.keeps fun b o e=>kp _ _ (SC2.keep b o e).2) mE mC (b1.keeps fun b o e=>kp _ _ (SC2.keep b o e).2) bE SO.r35 SO.r68 heK hget fun h' tk dx t' he' hdx hd0 hne keep=>?_))
    have keep2:∀ b o,s2.heap.get? b=some o→h'.get? b=some o:=fun b o e=>keep b o (fun q=>by have:=Heap.lt_size e;rw [q] at this;exact absurd this (Nat.not_lt.mpr (Nat.le_succ _))) (kp b o e)
    have hd2:s2.heap.get? dx=none:=by
     cases hq:s2.heap.get? dx with
     | none=>rfl
     | some o=>rw [kp _ _ hq] at hd0;cases hd0
    have W:=aw_new S2 (h₁:=h') (tk:=tk) hint r keep2 he' hdx hd2 hne
    exact⟨rfl,hh,_,t',some dx,rfl,keep2 _ _ (X2 _ _ hC),he',aw_xs W (fun L q=>nomatch q) hx⟩
 exact raise71 (wpAny_bind (wpAny_mono made (fun v s1 h1=>wpAny_bind (wpAny_standAt (wpAny_pure h1))) fun zz zz e=>e))
end
end Bm
namespace Bm
open PySem PySem.W PyProof.Rows PySem.SeqAt PySem.MeetsSeq
noncomputable def RS (K:Frag) (sc:List (Str×NameKind)) (nm:List String) (st:Stmt) (ir:IS):Prop:=∀ (T:Tab) (calls:Bool→CallSem),SS K T calls sc nm st ir
noncomputable def RSs (K:Frag) (sc:List (Str×NameKind)) (nm:List String) (ss:List Stmt) (ir:ISs):Prop:=∀ (T:Tab) (calls:Bool→CallSem),SSs K T calls sc nm ss ir
noncomputable def isSlice:Expr→Bool
 | .Slice ..=>true
 | _=>false
section
variable {K:Frag} {sc:List (Str×NameKind)} {nm:List String}
theorem q_setA {v o:Expr} {x:Str} {e o':IE} {m:String} {p pos:Pos} (h:x=Str.ofString m) (hc:isComp v=false) (ho:RE K sc nm o o') (he:RE K sc nm v e):RS K sc nm (.Assign [.Attribute o x p] v pos) (.setA o' m e):=by
 subst h;exact fun zz zz=>ss_setA hc ho.e he.e
theorem q_setI {v o i:Expr} {e o' i':IE} {p pos:Pos} (hc:isComp v=false) (hs:isSlice i=false) (ho:RE K sc nm o o') (hi:RE K sc nm i i') (he:RE K sc nm v e):RS K sc nm (.Assign [.Subscript o i p] v pos) (.setI o' i' e) :=
 fun zz zz=>ss_setI hc (by cases i <;> first | rfl | cases hs) ho.e hi.e he.e
theorem q_augA {v o:Expr} {x:Str} {e o':IE} {m:String} {op:Operator} {op':BOp} {p pos:Pos} (h:x=Str.ofString m) (hop:aopOf op=some op') (ho:RE K sc nm o o') (he:RE K sc nm v e):RS K sc nm (.AugAssign (.Attribute o x p) op v pos) (.augA o' m op' e):=by
 subst h;exact fun zz zz=>ss_augA hop ho.e he.e
theorem q_augK {v o:Expr} {k:Str} {e o':IE} {m:String} {op:Operator} {op':BOp} {kk:Nat} {p p2 pos:Pos} (h:k=Str.ofString m) (hop:aopOf op=some op') (ho:RE K sc nm o o') (he:RE K sc nm v e) :
  RS K sc nm (.AugAssign (.Subscript o (.Constant (.str k) kk p2) p) op v pos) (.augK o' m op' e):=by
 subst h;exact fun zz zz=>ss_augK hop ho.e he.e
structure MkS (K:Frag) where
 S:(sc:List (Str×NameKind))→(nm:List String)→(st:Stmt)→(ir:IS)→Option (PLift (RS K sc nm st ir))
 R:(sc:List (Str×NameKind))→(nm:List String)→(ss:List Stmt)→(ir:ISs)→Option (PLift (RSs K sc nm ss ir))
noncomputable def mkSs (K:Frag) (n:Nat):MkS K:=Nat.rec ⟨fun zz zz zz zz=>none,fun zz zz zz zz=>none⟩ (fun n m=>{
 S:=fun sc nm s ir=>match s with
  | .Expr v _=>(match ir with
   | .expr e=>gn (isComp v) fun h=>bd ((mks K n).E sc nm v e) fun a=>ok fun zz zz=>ss_expr h a.e
   | _=>none)
  | .Return v _=>(match v,ir with
   | some v,.ret e=>bd ((mks K n).E sc nm v e) fun a=>ok fun zz zz=>ss_ret a.e
   | none,.retN=>ok fun zz zz=>ss_retN
   | _,_=>none)
  | .Assign ts v q=>(match ir with
   | .asg i e=>(match ts with
    | [.Name x p]=>gp (idx x nm=some i) fun h=>bd ((mks K n).E sc nm v e) fun a=>ok fun zz zz=>ss_asgC h a
    | _=>none)
   | .setA o' a e=>(match ts with
    | [.Attribute o x _]=>gp (x=Str.ofString a) fun h=>gn (isComp v) fun h2=>bd ((mks K n).E sc nm o o') fun a=>bd ((mks K n).E sc nm v e) fun b=>ok (q_setA h h2 a b)
    | _=>none)
   | .setI o' i' e=>(match ts with
    | [.Subscript o i _]=>gn (isComp v) fun h=>gn (isSlice i) fun h2=>bd ((mks K n).E sc nm o o') fun a=>bd ((mks K n).E sc nm i i') fun b=>bd ((mks K n).E sc nm v e) fun c=>ok (q_setI h h2 a b c)
    | _=>none)
   | .unp is e=>(match ts with
    | [.Tuple ts _ _]=>gn (isComp v) fun h=>gn (isTup v) fun h2=>gd (names2 nm ts is) fun h3=>bd ((mks K n).E sc nm v e) fun a=>ok fun zz zz=>ss_unp h h2 h3 a.e
    | _=>none)
   | _=>none)
  | .AugAssign t op v _=>(match ir with
   | .augL i op' e=>(match t with
    | .Name x _=>gp (x≠"__classdict__") fun h=>gp (idx x nm=some i) fun h2=>gd (okKind (sc.lookup x)) fun h3=>gp (aopOf op=some op') fun h4=>bd ((mks K n).E sc nm v e) fun a=>ok fun zz zz=>ss_augL h h2 h3 h4 a.e
    | _=>none)
   | .augA o' a op' e=>(match t with
    | .Attribute o x _=>gp (x=Str.ofString a) fun h=>gp (aopOf op=some op') fun h2=>bd ((mks K n).E sc nm o o') fun a=>bd ((mks K n).E sc nm v e) fun b=>ok (q_augA h h2 a b)
    | _=>none)
   | .augK o' a op' e=>(match t with
    | .Subscript o (.Constant (.str k) _ _) _=>gp (k=Str.ofString a) fun h=>gp (aopOf op=some op') fun h2=>bd ((mks K n).E sc nm o o') fun a=>bd ((mks K n).E sc nm v e) fun b=>ok (q_augK h h2 a b)
    | _=>none)
   | _=>none)
  | .If t a b _=>(match ir with
   | .ite t' x y=>bd ((mks K n).E sc nm t t') fun ht=>bd (m.R sc nm a x) fun ha=>bd (m.R sc nm b y) fun hb=>ok fun T c=>ss_ite ht.b (ha T c) (hb T c)
   | _=>none)
  | .While t b r _=>(match r,ir with
   | [],.whil t' x=>bd ((mks K n).E sc nm t t') fun ht=>bd (m.R sc nm b x) fun hb=>ok fun T c=>ss_while ht.b (hb T c)
   | _,_=>none)
  | .For t it b r _=>(match ir with
   | .for_ i it' y=>(match t,r with
    | .Name x _,[]=>gp (idx x nm=some i) fun h=>gn (isSet it) fun h2=>bd ((mks K n).T sc nm it it') fun ht=>bd (m.R sc nm b y) fun hb=>ok fun T c=>ss_for h h2 ht.t (hb T c)
    | _,_=>none)
   | _=>none)
  | .Raise e r _=>(match ir with
   | .raiseStop y=>(match e,r with
    | some (.Call (.Name f _) [a] [] _),none=>gd (isG sc nm f) fun h=>gp (f = "SearchStopped") fun h2=>gn (isStar a) fun h3=>bd ((mks K n).E sc nm a y) fun ha=>ok fun zz zz=>ss_raise h h2 h3 ha.e
    | _,_=>none)
   | .bad=>ok fun zz zz=>ss_bad
   | _=>none)
  | .Try b hs r1 r2 _=>(match ir with
   | .tryStop x i y=>(match hs,r1,r2 with
    | [.ExceptHandler (some (.Name f _)) v h _],[],[]=>gd (isG sc nm f) fun h1=>gp (f = "SearchStopped") fun h2=>gp (h≠[]) fun h3=>bd (m.R sc nm b x) fun hb=>bd (m.R sc nm h y) fun hh=>(match v,i with
     | none,none=>ok fun T c=>ss_try h1 h2 h3 (hb T c) (hh T c) trivial
     | some v,some i=>gp (idx v nm=some i) fun h4=>gp (sc.lookup v=some .local) fun h5=>ok fun T c=>ss_try h1 h2 h3 (hb T c) (hh T c) ⟨h4,h5⟩
     | _,_=>none)
    | _,_,_=>none)
   | _=>none)
  | .Pass _=>(match ir with
   | .pass=>ok fun zz zz=>ss_pass
   | _=>none)
  | .Break _=>(match ir with
   | .brk=>ok fun zz zz=>ss_brk
   | _=>none)
  | .Continue _=>(match ir with
   | .cont=>ok fun zz zz=>ss_cont
   | _=>none)
  | _=>none
 R:=fun sc nm ss ir=>match ss,ir with
  | [],.nil=>ok fun zz zz=>sss_nil
  | s::r,.cons x y=>bd (m.S sc nm s x) fun a=>bd (m.R sc nm r y) fun b=>ok fun T c=>sss_cons (a T c) (b T c)
  | _,_=>none }) n
noncomputable def mkF (K:Frag) (f:Nat) (fn:Fn):Option (PLift (∃ fd body,FnAt K f fn fd body)):=match h:K.lookup f with
 | some ⟨c,d,.func fd,sl⟩=>(match hb:fd.body with
  | .stmts body=>gp (fd.closure=[]) fun h1=>gp (fd.globals=mainGlobals) fun h2=>gp (fd.builtins=builtinsNs) fun h3=>(match h4:fd.defaults with
   | .none=>gd (plainP fd.params) fun h5=>gd (codeIn K fd.code fd.qualname) fun h6=>bd ((mkSs K 60).R fd.scope.names fn.names body fn.body) fun c1=>gd (nodup fn.names) fun c2=>gp (fd.params.args.map (·.arg)=(fn.names.take fn.np).map Str.ofString) fun c3=>gp (fn.np≤fn.names.length) fun c4 =>
    gp (∀ x∈fn.names,fd.scope.names.lookup (Str.ofString x)=some .local∨fd.scope.names.lookup (Str.ofString x)=some .cell) fun c5=>gp (fd.scope.kind=.function) fun c6=>gn fd.scope.isGenerator fun c7=>gn fd.scope.isCoroutine fun c8=>gp (∀ x∈fd.scope.names,x.2≠.free) fun c9 =>
     ok ⟨fd,body,⟨_,_,_,h⟩,hb,h1,h2,h3,h4,h5,h6,c1,nodup_of c2,c3,c4,c5,c6,c7,c8,c9⟩
   | _=>none)
  | _=>none)
 | _=>none
noncomputable def fnIn (K:Frag) (f:Nat) (fn:Fn):Bool:=(mkF K f fn).isSome
theorem fnAt_of {f:Nat} {fn:Fn} (h:fnIn K f fn=true):∃ fd body,FnAt K f fn fd body:=by
 unfold fnIn at h
 cases e:mkF K f fn with
 | none=>rw [e] at h;cases h
 | some p=>exact p.down
end
theorem callOk {K:Frag} {T:Tab} {c:Cx} (F:Fa c T K) (hT:∀ f fn,T.fn f=some fn→fnIn K f fn=true):∀ n hd,CallOk c (FW T n hd) n hd
 | 0,hd=>fun f args H Q X h=>(FW_0 h).elim
 | n+1,hd=>fun f args H Q X h A fr P G s vs nv hv S room hfr hh=>by
  rw [FW_s] at h
  unfold FWs at h
  cases hf:T.fn f with
  | none=>rw [hf] at h;exact h.elim
  | some fn =>
   rw [hf] at h
   obtain⟨fd,body,C⟩:=fnAt_of (hT f fn hf)
   exact call_step F C (calls:=FW T n) (fun b=>callOk F hT n b) h.1 h.2 nv hv S room hfr hh
end Bm
namespace Bn
open Bm
theorem lget_0 (v:AV) (r:List AV):lget (v::r) 0=v:=rfl
theorem lget_1 (v:AV) (r:List AV) (n:Nat):lget (v::r) (n+1)=lget r n:=rfl
theorem lset_0 (v w:AV) (r:List AV):lset (v::r) 0 w=w::r:=rfl
theorem lset_1 (v w:AV) (r:List AV) (n:Nat):lset (v::r) (n+1) w=v::lset r n w:=rfl
section
variable {a:Nat} {C:Nat} {fs:List (String×AV)} {nm:String} {v:AV} {H:AHeap}
theorem fw_in {n f:Nat} {fn:Fn} {hd:Bool} {args:List AV} {Q X:EQ} (h:theTab.fn f=some fn) (hl:args.length=fn.np) (k:vSs theTab (FW theTab n) fn.body hd (args++List.replicate (fn.names.length - fn.np) .undef) H (retQ Q) (callX X)) :
  FW theTab (n+1) hd f args H Q X:=by
 rw [FW_s];unfold FWs;rw [h];exact⟨hl,k⟩
theorem aG {Q:AV→Prop} (h:H a=some (.obj C fs)) (hc:theTab.att C nm=true) (hf:fget fs nm=some v) (hv:okv v) (k:Q v):vAttr theTab (.ref a) nm H Q:=by
 exact .obj h hc hf hv k
theorem aS {Q:AHeap→Prop} (h:H a=some (.obj C fs)) (hc:theTab.att C nm=true) (hl:fs.length < 100) (k:Q (upd H a (.obj C (fset fs nm v)))):vSetA theTab (.ref a) nm v H Q:=by
 exact .mk h hc hl k
theorem mO {call:CallSem} {f:Nat} {args:AHeap→(List AV→AHeap→Prop)→Prop} {Q X:EQ} (h:H a=some (.obj C fs)) (e:fget fs nm=none) (m:theTab.mth C nm=some f) (k:args H fun vs H=>call f (.ref a::vs) H Q X) :
  vMeth theTab call (.ref a) nm args H Q X:=by
 exact .obj h e m k
theorem mL {call:CallSem} {xs:List AV} {args:AHeap→(List AV→AHeap→Prop)→Prop} {Q X:EQ} (h:H a=some (.list xs)) (e:listM nm=true) (k:args H fun vs H=>vListM a nm vs H Q):vMeth theTab call (.ref a) nm args H Q X:=by
 exact .list h e k
theorem mD {call:CallSem} {d:List (Int×AV)} {args:AHeap→(List AV→AHeap→Prop)→Prop} {Q X:EQ} (h:H a=some (.idict d)) (k:args H fun vs H=>vDictM a vs H Q):vMeth theTab call (.ref a) "get" args H Q X:=by
 exact .dict h rfl k
theorem lApp {xs:List AV} {Q:EQ} (h:H a=some (.list xs)) (hl:xs.length < lim) (k:Q .none (upd H a (.list (xs++[v])))):vListM a "append" [v] H Q:=by
 exact .app h hl k
theorem lPop {xs:List AV} {Q:EQ} (h:H a=some (.list xs)) (hl:xs≠[]) (k:Q (lget xs (xs.length - 1)) (upd H a (.list xs.dropLast))):vListM a "pop" [] H Q:=by
 exact .pop h hl k
theorem lPopi {xs:List AV} {Q:EQ} {i:Int} {j:Nat} (h:H a=some (.list xs)) (hl:place i xs.length=some j) (k:Q (lget xs j) (upd H a (.list (xs.eraseIdx j)))):vListM a "pop" [.int i] H Q:=by
 exact .popi h hl k
theorem lRem {xs:List AV} {Q:EQ} {i:Int} (h:H a=some (.list xs)) (h1:xs.all isInt=true) (h2:xs.any (isThe i)=true) (k:Q .none (upd H a (.list (xs.eraseP (isThe i))))):vListM a "remove" [.int i] H Q:=by
 exact .rem h h1 h2 k
theorem iL {xs:List AV} {i:Int} {j:Nat} {Q:AV→Prop} (h:H a=some (.list xs)) (p:place i xs.length=some j) (g:lget xs j=v) (k:Q v):vIdx (.ref a) (.int i) H Q:=.list h p (by rw [g];exact k)
theorem iT {xs:List AV} {i:Int} {j:Nat} {Q:AV→Prop} (h:H a=some (.tup xs)) (p:place i xs.length=some j) (g:lget xs j=v) (k:Q v):vIdx (.ref a) (.int i) H Q:=.tup h p (by rw [g];exact k)
theorem iS {xs:List AV} {i:Int} {Q:AHeap→Prop} (h:H a=some (.list xs)) (p:0≤i∧i < xs.length) (k:Q (upd H a (.list (lset xs i.toNat v)))):vSetI (.ref a) (.int i) v H Q:=by
 exact .list h p k
theorem iSd {d:List (Int×AV)} {i:Int} {Q:AHeap→Prop} (h:H a=some (.idict d)) (p:d.length < lim) (e:isInt v=true) (k:Q (upd H a (.idict (dset d i v)))):vSetI (.ref a) (.int i) v H Q:=by
 exact .dict h p e k
theorem oL {xs:List AV} {Q:List AV→Prop} (h:H a=some (.list xs)) (k:Q xs):onL (.ref a) H Q:=.mk h k
theorem oR {xs:List AV} {Q:List AV→Prop} (h:H a=some (.ro xs)) (k:Q xs):onR (.ref a) H Q:=.mk h k
theorem oT {xs:List AV} {Q:List AV→Prop} (h:H a=some (.tup xs)) (k:Q xs):onT (.ref a) H Q:=.mk h k
theorem tL {xs:List AV} {Q:Bool→Prop} (h:H a=some (.list xs)) (k:Q (!xs.isEmpty)):truthy (.ref a) H Q:=by
 exact .ref h k
end
theorem addL {a b:Nat} {xs ys:List AV} {H:AHeap} {Q:EQ} (h:H a=some (.list xs)) (h2:H b=some (.list ys)) (hl:xs.length+ys.length < lim) (k:∀ d,H d=none→Q (.ref d) (upd H d (.list (xs++ys)))):vBin .add (.ref a) (.ref b) H Q:=by
 exact .add rfl h h2 (Nat.le_of_lt hl) k
theorem mulL {a:Nat} {n:Int} {z:AV} {H:AHeap} {Q:EQ} (h:H a=some (.list [z])) (hn:0≤n∧n≤1000) (k:∀ d,H d=none→Q (.ref d) (upd H d (.list (List.replicate n.toNat z)))):vBin .mul (.ref a) (.int n) H Q:=by
 exact .mul rfl h hn k
theorem bAdd {a b:Int} {H:AHeap} {Q:EQ} (k:Q (.int (a+b)) H):vBin .add (.int a) (.int b) H Q:=.int k
theorem bSub {a b:Int} {H:AHeap} {Q:EQ} (k:Q (.int (a - b)) H):vBin .sub (.int a) (.int b) H Q:=.int k
theorem vO {a:Nat} {xs:List AV} {H:AHeap} {K:Src→List AV→Prop} (h:H a=some (.list xs)) (k:K (.lst a xs) xs):vOver (.ref a) H K:=.list h k
theorem vOT {a:Nat} {xs:List AV} {H:AHeap} {K:Src→List AV→Prop} (h:H a=some (.tup xs)) (k:K (.tup a xs) xs):vOver (.ref a) H K:=.tup h k
theorem rLoc {n:Nat} {hd:Bool} {ρ:List AV} {H:AHeap} {Q:SQ} {X:SX} {i:Nat} {x:Int} {r:ISs} (h:lget ρ i=.int x) (k:Q (.ret (.int x)) ρ H):vSs theTab (FW theTab n) (.cons (.ret (.loc i)) r) hd ρ H Q X:=by
 have:defd (lget ρ i) fun v=>Q (.ret v) ρ H:=by rw [h];exact k
 exact this
theorem iteT {c:Prop} {i:Decidable c} {a b:Prop} (h:c) (k:a):@ite Prop c i a b:=by rw [if_pos h];exact k
theorem iteF {c:Prop} {i:Decidable c} {a b:Prop} (h:¬ c) (k:b):@ite Prop c i a b:=by rw [if_neg h];exact k
section
variable {H:AHeap} {Q:Bool→Prop}
theorem bT {b:Bool} (h:b=true) (k:Q true):truthy (.bool b) H Q:=tB (by rw [h];exact k)
theorem bF {b:Bool} (h:b=false) (k:Q false):truthy (.bool b) H Q:=tB (by rw [h];exact k)
theorem dT {p:Prop} {d:Decidable p} (h:p) (k:Q true):truthy (.bool (@decide p d)) H Q:=bT (decide_eq_true h) k
theorem dF {p:Prop} {d:Decidable p} (h:¬ p) (k:Q false):truthy (.bool (@decide p d)) H Q:=bF (decide_eq_false h) k
theorem nT {p:Prop} {d:Decidable p} (h:¬ p) (k:Q true):truthy (.bool (!@decide p d)) H Q:=bT (by rw [decide_eq_false h];rfl) k
theorem nF {p:Prop} {d:Decidable p} (h:p) (k:Q false):truthy (.bool (!@decide p d)) H Q:=bF (by rw [decide_eq_true h];rfl) k
theorem tNone (k:Q false):truthy .none H Q:=.none k
theorem tInt {i:Int} (k:Q (decide (i≠0))):truthy (.int i) H Q:=.int k
end
@[irreducible] noncomputable def aft (W:List AV→AHeap→SQ→Prop) (Q:SQ):SQ:=fun fl ρ' H'=>match fl with
 | .next | .cont=>W ρ' H' Q
 | .brk=>Q .next ρ' H'
 | .ret v=>Q (.ret v) ρ' H'
theorem while_step {test body k ρ H Q}:whileL test body (k+1) ρ H Q=test ρ H (fun b H₁=>cnd b (body ρ H₁ (aft (whileL test body k) Q)) (Q .next ρ H₁)):=by
 unfold aft
 rw [whileL]
 try rfl
theorem aN {W Q ρ H} (h:W ρ H Q):aft W Q .next ρ H:=by unfold aft;exact h
theorem aC {W Q ρ H} (h:W ρ H Q):aft W Q .cont ρ H:=by unfold aft;exact h
theorem aR {W Q ρ H v} (h:Q (.ret v) ρ H):aft W Q (.ret v) ρ H:=by unfold aft;exact h
theorem aB {W Q ρ H} (h:Q .next ρ H):aft W Q .brk ρ H:=by unfold aft;exact h
theorem whI {test body k ρ H Q} (h:test ρ H fun b H₁=>cnd b (body ρ H₁ (aft (whileL test body k) Q)) (Q .next ρ H₁)):whileL test body (k+1) ρ H Q:=by rw [while_step];exact h
@[irreducible] noncomputable def aftF (src:Src) (W:List AV→AHeap→SQ→Prop) (Q:SQ):SQ:=fun fl ρ' H'=>match fl with
 | .next | .cont=>src.ok H'∧W ρ' H' Q
 | .brk=>Q .next ρ' H'
 | .ret v=>Q (.ret v) ρ' H'
theorem fN {src W Q ρ H} (o:src.ok H) (h:W ρ H Q):aftF src W Q .next ρ H:=by unfold aftF;exact⟨o,h⟩
theorem fC {src W Q ρ H} (o:src.ok H) (h:W ρ H Q):aftF src W Q .cont ρ H:=by unfold aftF;exact⟨o,h⟩
theorem fR {src W Q ρ H v} (h:Q (.ret v) ρ H):aftF src W Q (.ret v) ρ H:=by unfold aftF;exact h
theorem fB {src W Q ρ H} (h:Q .next ρ H):aftF src W Q .brk ρ H:=by unfold aftF;exact h
theorem foI {src i body x xs ρ H Q} (h:body (lset ρ i x) H (aftF src (forL src i body xs) Q)):forL src i body (x::xs) ρ H Q:=by unfold aftF at h;exact h
theorem foE {src i body ρ H Q} (h:Q .next ρ H):forL src i body [] ρ H Q:=h
theorem mated_in_ok {n:Nat} {hd:Bool} {p:Int} {H:AHeap} {Q X:EQ} (h:Q (.int (p - 32000)) H):FW theTab (n+1) hd 92 [.int p] H Q X:=by
 refine fw_in rfl rfl ?_
 exact bSub h
end Bn
namespace Bn
open Bm
noncomputable def nats (l:List Nat):List AV:=l.map fun(n:Nat)=>AV.int (n:Int)
noncomputable def intsL (l:List Int):List AV:=l.map AV.int
noncomputable def refs (l:List Nat):List AV:=l.map AV.ref
noncomputable def boolsL (l:List Bool):List AV:=l.map AV.bool
structure Gm where
 kids:List (List Nat)
 vals:List Int
 chk:List Bool
 drw:List Bool
 noi:List (List Bool)
 gai:List (List Int)
structure Cf where
 tab:Option (Nat×Nat)
 kh:Bool
 calm:Int
 most:Int
structure Ad where
 c:Nat
 g:Nat
 gp:Nat
 gl:Nat
 t:Nat
 ts:Nat
 kl:Nat
 k1:Nat
 k2:Nat
 hs:Nat
 hd:Nat
 ch:Nat
 va:Nat
 ck:Nat
 dr:Nat
 no:Nat
 ga:Nat
 chR:List Nat
 noR:List Nat
 gaR:List Nat
noncomputable def Ad.chg (A:Ad):List Nat:=[A.c,A.gp,A.gl,A.ts,A.k1,A.k2,A.hd]
structure Sg where
 path:List Nat
 slots:List Int
 first:List Int
 second:List Int
 scores:List (Int×Int)
 nodes:Int
 made:Int
 lines:List (List Int)
noncomputable def tabV (A:Ad) (f:Cf):AV:=if f.tab.isSome then .ref A.t else .none
noncomputable def kilV (A:Ad) (f:Cf):AV:=if f.kh then .ref A.kl else .none
noncomputable def hisV (A:Ad) (f:Cf):AV:=if f.kh then .ref A.hs else .none
noncomputable def ctxFs (A:Ad) (f:Cf) (σ:Sg):List (String×AV):=[("game",.ref A.g),("table",tabV A f),("killers",kilV A f),("history",hisV A f),("qdepth",.int f.calm),("is_exact",.bool true),("max_nodes",.int f.most),("nodes",.int σ.nodes),("made",.int σ.made),("lines",.ref A.gl)]
noncomputable def gameFs (A:Ad):List (String×AV):=[("children",.ref A.ch),("values",.ref A.va),("checks",.ref A.ck),("draws",.ref A.dr),("noisy_rows",.ref A.no),("gain_rows",.ref A.ga),("path",.ref A.gp)]
noncomputable def tabFs (A:Ad) (cl w:Nat) (age:Int):List (String×AV):=[("clusters",.int cl),("ways",.int w),("age",.int age),("slots",.ref A.ts)]
noncomputable def scV (l:List (Int×Int)):List (Int×AV):=l.map fun p=>(p.1,AV.int p.2)
noncomputable def A2 {α β:Type} (P:α→β→Prop) (l:List α):List β→Prop :=
 List.rec (fun m=>match m with | []=>True | _::_=>False) (fun a zz ih m=>match m with | []=>False | b::m=>P a b∧ih m) l
section
variable {α β:Type} {P P':α→β→Prop}
theorem A2.mono (k:∀ a b,P a b→P' a b) {l:List α}:∀ {m:List β},A2 P l m→A2 P' l m:=by
 induction l with
 | nil=>intro m h;cases m with
  | nil=>exact h
  | cons=>exact h
 | cons a l ih=>intro m h;cases m with
  | nil=>exact h
  | cons b m=>exact⟨k _ _ h.1,ih h.2⟩
theorem A2.at {l:List α}:∀ {m:List β},A2 P l m→∀ {k:Nat} {b:β},m[k]? = some b→∃ a,l[k]? = some a∧P a b:=by
 induction l with
 | nil=>intro m h k b e;cases m with
  | nil=>exact nomatch e
  | cons=>exact h.elim
 | cons a l ih=>intro m h k b e;cases m with
  | nil=>exact h.elim
  | cons c m=>cases k with
   | zero=>exact⟨a,rfl,by cases e;exact h.1⟩
   | succ k=>exact ih h.2 e
theorem A2.len {l:List α}:∀ {m:List β},A2 P l m→l.length=m.length:=by
 induction l with
 | nil=>intro m h;cases m with
  | nil=>rfl
  | cons=>exact h.elim
 | cons a l ih=>intro m h;cases m with
  | nil=>exact h.elim
  | cons b m=>exact congrArg Nat.succ (ih h.2)
theorem A2.snoc {l:List α}:∀ {m:List β},A2 P l m→∀ {a:α} {b:β},P a b→A2 P (l++[a]) (m++[b]):=by
 induction l with
 | nil=>intro m h a b p;cases m with
  | nil=>exact⟨p,trivial⟩
  | cons=>exact h.elim
 | cons c l ih=>intro m h a b p;cases m with
  | nil=>exact h.elim
  | cons d m=>exact⟨h.1,ih h.2 p⟩
theorem A2.set {l:List α}:∀ {m:List β},A2 P l m→∀ {a:α} {b:β},P a b→∀ k:Nat,A2 P (l.set k a) (m.set k b):=by
 induction l with
 | nil=>intro m h a b p k;cases m with
  | nil=>exact h
  | cons=>exact h.elim
 | cons c l ih=>intro m h a b p k;cases m with
  | nil=>exact h.elim
  | cons d m=>cases k with
   | zero=>exact⟨p,h.2⟩
   | succ k=>exact⟨h.1,ih h.2 p k⟩
theorem A2.erase {l:List α}:∀ {m:List β},A2 P l m→∀ k:Nat,A2 P (l.eraseIdx k) (m.eraseIdx k):=by
 induction l with
 | nil=>intro m h k;cases m with
  | nil=>exact h
  | cons=>exact h.elim
 | cons c l ih=>intro m h k;cases m with
  | nil=>exact h.elim
  | cons d m=>cases k with
   | zero=>exact h.2
   | succ k=>exact⟨h.1,ih h.2 k⟩
end
noncomputable abbrev Rows (H:AHeap) (F:Nat→Prop):List Nat→List (List AV)→Prop:=A2 fun a r=>H a=some (.list r)∧F a
theorem upd_eq {H:AHeap} {a:Nat} {o:AO}:upd H a o a=some o:=by unfold upd;rw [if_pos rfl]
theorem upd_ne {H:AHeap} {a b:Nat} {o:AO} (h:b≠a):upd H a o b=H b:=by unfold upd;rw [if_neg h]
theorem Rows.mono {H H':AHeap} {F F':Nat→Prop} (x:∀ a r,H a=some (.list r)→F a→H' a=some (.list r)∧F' a) {as:List Nat} {rs:List (List AV)} (h:Rows H F as rs):Rows H' F' as rs:=A2.mono (fun a r q=>x a r q.1 q.2) h
theorem Rows.at {H:AHeap} {F:Nat→Prop} {as:List Nat} {rs:List (List AV)} (h:Rows H F as rs) (i:Nat) (r:List AV) (e:rs[i]? = some r):∃ a,as[i]? = some a∧H a=some (.list r)∧F a:=A2.at h e
theorem Rows.len {H:AHeap} {F:Nat→Prop} {as:List Nat} {rs:List (List AV)} (h:Rows H F as rs):as.length=rs.length:=A2.len h
structure Stat (A:Ad) (f:Cf) (G:Gm) (age:Int) (F:Nat→Prop) (H:AHeap):Prop where
 game:H A.g=some (.obj 686 (gameFs A))∧F A.g
 ch:H A.ch=some (.list (refs A.chR))∧F A.ch
 va:H A.va=some (.list (intsL G.vals))∧F A.va
 ck:H A.ck=some (.list (boolsL G.chk))∧F A.ck
 dr:H A.dr=some (.list (boolsL G.drw))∧F A.dr
 no:H A.no=some (.list (refs A.noR))∧F A.no
 ga:H A.ga=some (.list (refs A.gaR))∧F A.ga
 chR:Rows H F A.chR (G.kids.map nats)
 noR:Rows H F A.noR (G.noi.map boolsL)
 gaR:Rows H F A.gaR (G.gai.map intsL)
 tab:∀ cl w,f.tab=some (cl,w)→H A.t=some (.obj 284 (tabFs A cl w age))∧F A.t
 kil:f.kh=true→H A.kl=some (.obj 389 [("plies",.int 3),("first",.ref A.k1),("second",.ref A.k2)])∧F A.kl
 his:f.kh=true→H A.hs=some (.obj 347 [("limit",.int 400),("scores",.ref A.hd)])∧F A.hs
structure Dyn (A:Ad) (f:Cf) (σ:Sg) (F:Nat→Prop) (H:AHeap):Prop where
 ctx:H A.c=some (.obj 137 (ctxFs A f σ))
 path:H A.gp=some (.list (nats σ.path))
 lines:∃ ls,H A.gl=some (.list (refs ls))∧Rows H F ls (σ.lines.map intsL)
 slots:f.tab.isSome=true→H A.ts=some (.list (intsL σ.slots))
 first:f.kh=true→H A.k1=some (.list (intsL σ.first))
 second:f.kh=true→H A.k2=some (.list (intsL σ.second))
 scores:f.kh=true→H A.hd=some (.idict (scV σ.scores))
theorem Stat.mono {A:Ad} {f:Cf} {G:Gm} {age:Int} {F F':Nat→Prop} {H H':AHeap} (S:Stat A f G age F H) (x:∀ a o,H a=some o→F a→H' a=some o∧F' a):Stat A f G age F' H' :=
 ⟨x _ _ S.game.1 S.game.2,x _ _ S.ch.1 S.ch.2,x _ _ S.va.1 S.va.2,x _ _ S.ck.1 S.ck.2,x _ _ S.dr.1 S.dr.2,x _ _ S.no.1 S.no.2,x _ _ S.ga.1 S.ga.2,S.chR.mono fun a r=>x a _,S.noR.mono fun a r=>x a _,S.gaR.mono fun a r=>x a _,
  fun cl w e=>x _ _ (S.tab cl w e).1 (S.tab cl w e).2,fun e=>x _ _ (S.kil e).1 (S.kil e).2,fun e=>x _ _ (S.his e).1 (S.his e).2⟩
theorem Stat.mono2 {A:Ad} {f:Cf} {G:Gm} {age age':Int} {F F':Nat→Prop} {H H':AHeap} (S:Stat A f G age F H) (x:∀ a o,(∀ fs,o≠.obj 284 fs)→H a=some o→F a→H' a=some o∧F' a) (tb:∀ cl w,f.tab=some (cl,w)→H' A.t=some (.obj 284 (tabFs A cl w age'))∧F' A.t):Stat A f G age' F' H' :=
 have l:∀ {xs:List AV} (fs),AO.list xs≠.obj 284 fs:=nofun
 have o:∀ {C:Nat} {gs},C≠284→∀ fs,AO.obj C gs≠.obj 284 fs:=fun h fs e=>h (by injection e)
 ⟨x _ _ (o (by decide)) S.game.1 S.game.2,x _ _ l S.ch.1 S.ch.2,x _ _ l S.va.1 S.va.2,x _ _ l S.ck.1 S.ck.2,x _ _ l S.dr.1 S.dr.2,x _ _ l S.no.1 S.no.2,x _ _ l S.ga.1 S.ga.2,S.chR.mono fun a r=>x a _ l,S.noR.mono fun a r=>x a _ l,S.gaR.mono fun a r=>x a _ l,
  tb,fun e=>x _ _ (o (by decide)) (S.kil e).1 (S.kil e).2,fun e=>x _ _ (o (by decide)) (S.his e).1 (S.his e).2⟩
theorem Dyn.mono {A:Ad} {f:Cf} {σ:Sg} {F F':Nat→Prop} {H H':AHeap} (D:Dyn A f σ F H) (x:∀ a o,H a=some o→F a→H' a=some o∧F' a) (y:∀ a∈A.chg,H' a=H a):Dyn A f σ F' H':=by
 obtain⟨ls,l1,l2⟩:=D.lines
 exact⟨(y _ (by simp [Ad.chg])).trans D.ctx,(y _ (by simp [Ad.chg])).trans D.path,⟨ls,(y _ (by simp [Ad.chg])).trans l1,l2.mono fun a r=>x a _⟩,fun e=>(y _ (by simp [Ad.chg])).trans (D.slots e),
  fun e=>(y _ (by simp [Ad.chg])).trans (D.first e),fun e=>(y _ (by simp [Ad.chg])).trans (D.second e),fun e=>(y _ (by simp [Ad.chg])).trans (D.scores e)⟩
noncomputable def Fo (A:Ad) (R:AHeap) (a:Nat):Prop:=a∉A.chg∧R a=none
structure SR (A:Ad) (f:Cf) (G:Gm) (age:Int) (σ:Sg) (R H:AHeap):Prop where
 st:Stat A f G age (Fo A R) H
 dy:Dyn A f σ (Fo A R) H
 nd:A.chg.Nodup
 al:∀ a∈A.chg,H a≠none∧R a=none
 sub:∀ a o,R a=some o→H a=some o
theorem upd_some {H:AHeap} {a b:Nat} {o q:AO} (h:H b=some q) (n:b≠a):upd H a o b=some q:=by rw [upd_ne n];exact h
theorem SR.put {A f G age σ R H} (S:SR A f G age σ R H) {a:Nat} {o:AO} (h:R a≠none∨H a=none):SR A f G age σ (upd R a o) (upd H a o):=by
 have k:∀ b q,H b=some q→R b=none→b≠a:=fun b q h1 h2 e=>by
  subst e
  cases h with
  | inl h=>exact h h2
  | inr h=>rw [h] at h1;cases h1
 have x:∀ b q,H b=some q→Fo A R b→upd H a o b=some q∧Fo A (upd R a o) b:=fun b q h1 h2 =>
  ⟨upd_some h1 (k b q h1 h2.2),h2.1,by rw [upd_ne (k b q h1 h2.2)];exact h2.2⟩
 have c:∀ b∈A.chg,b≠a:=fun b m=>by
  obtain⟨u,v⟩:=S.al b m
  cases e:H b with
  | none=>exact(u e).elim
  | some q=>exact k b q e v
 refine⟨S.st.mono x,S.dy.mono x fun b m=>upd_ne (c b m),S.nd,fun b m=>?_,fun b q e=>?_⟩
 ·rw [upd_ne (c b m),upd_ne (c b m)];exact S.al b m
 ·by_cases n:b=a
  ·subst n;rw [upd_eq] at e ⊢;exact e
  ·rw [upd_ne n] at e ⊢;exact S.sub b q e
theorem SR.drop {A f G age σ R R' H} (S:SR A f G age σ R H) (h:∀ a o,R' a=some o→R a=some o):SR A f G age σ R' H:=by
 have z:∀ b,R b=none→R' b=none:=fun b e=>by
  cases r:R' b with
  | none=>rfl
  | some q=>rw [h b q r] at e;cases e
 have x:∀ b q,H b=some q→Fo A R b→H b=some q∧Fo A R' b:=fun b q h1 h2=>⟨h1,h2.1,z b h2.2⟩
 exact⟨S.st.mono x,S.dy.mono x fun zz zz=>rfl,S.nd,fun b m=>⟨(S.al b m).1,z b (S.al b m).2⟩,fun b q e=>S.sub b q (h b q e)⟩
theorem SR.none_R {A f G age σ R H} (S:SR A f G age σ R H) {a:Nat} (h:H a=none):R a=none:=by
 cases r:R a with
 | none=>rfl
 | some q=>rw [S.sub a q r] at h;cases h
theorem SR.new {A f G age σ R H} (S:SR A f G age σ R H) {a:Nat} {o:AO} (h:H a=none):SR A f G age σ R (upd H a o) :=
 (S.put (o:=o) (.inr h)).drop fun b q e=>upd_some e fun n=>by rw [n,S.none_R h] at e;cases e
structure Ad.Nd (A:Ad):Prop where
 n12:A.c≠A.gp
 n13:A.c≠A.gl
 n14:A.c≠A.ts
 n15:A.c≠A.k1
 n16:A.c≠A.k2
 n17:A.c≠A.hd
 n23:A.gp≠A.gl
 n24:A.gp≠A.ts
 n25:A.gp≠A.k1
 n26:A.gp≠A.k2
 n27:A.gp≠A.hd
 n34:A.gl≠A.ts
 n35:A.gl≠A.k1
 n36:A.gl≠A.k2
 n37:A.gl≠A.hd
 n45:A.ts≠A.k1
 n46:A.ts≠A.k2
 n47:A.ts≠A.hd
 n56:A.k1≠A.k2
 n57:A.k1≠A.hd
 n67:A.k2≠A.hd
theorem Ad.ndp {A:Ad} (h:A.chg.Nodup):A.Nd:=by
 unfold Ad.chg at h
 simp only [List.nodup_cons,List.mem_cons,List.not_mem_nil,or_false,not_or] at h
 obtain⟨⟨a1,a2,a3,a4,a5,a6⟩,⟨b1,b2,b3,b4,b5⟩,⟨c1,c2,c3,c4⟩,⟨d1,d2,d3⟩,⟨e1,e2⟩,f1,_⟩:=h
 exact⟨a1,a2,a3,a4,a5,a6,b1,b2,b3,b4,b5,c1,c2,c3,c4,d1,d2,d3,e1,e2,f1⟩
theorem SR.set {A f G age σ σ' R H} (S:SR A f G age σ R H) {a:Nat} {o:AO} (m:a∈A.chg) (D:Dyn A f σ' (Fo A R) (upd H a o)):SR A f G age σ' R (upd H a o):=by
 have x:∀ b q,H b=some q→Fo A R b→upd H a o b=some q∧Fo A R b:=fun b q h1 h2=>⟨upd_some h1 fun n=>h2.1 (by rw [n];exact m),h2⟩
 refine⟨S.st.mono x,D,S.nd,fun b n=>⟨?_,(S.al b n).2⟩,fun b q e=>upd_some (S.sub b q e) fun n=>by rw [n,(S.al a m).2] at e;cases e⟩
 by_cases e:b=a
 ·rw [e,upd_eq];intro z;cases z
 ·rw [upd_ne e];exact(S.al b n).1
theorem SR.lines_mono {A f G age σ R H} (S:SR A f G age σ R H) {a:Nat} {o:AO} (m:a∈A.chg) {ls:List Nat} {rs:List (List AV)} (h:Rows H (Fo A R) ls rs):Rows (upd H a o) (Fo A R) ls rs :=
 h.mono fun b q h1 h2=>⟨upd_some h1 fun n=>h2.1 (by rw [n];exact m),h2⟩
theorem SR.setCtx {A f G age σ R H} (S:SR A f G age σ R H) (n m:Int):SR A f G age { σ with nodes:=n,made:=m } R (upd H A.c (.obj 137 (ctxFs A f { σ with nodes:=n,made:=m }))):=by
 have N:=Ad.ndp S.nd;have D:=S.dy
 obtain⟨ls,l1,l2⟩:=D.lines
 have mm:A.c∈A.chg:=by simp [Ad.chg]
 exact S.set mm ⟨upd_eq,(upd_ne N.n12.symm).trans D.path,⟨ls,(upd_ne N.n13.symm).trans l1,S.lines_mono mm l2⟩,fun e=>(upd_ne N.n14.symm).trans (D.slots e),fun e=>(upd_ne N.n15.symm).trans (D.first e),fun e=>(upd_ne N.n16.symm).trans (D.second e),fun e=>(upd_ne N.n17.symm).trans (D.scores e)⟩
theorem SR.setPath {A f G age σ R H} (S:SR A f G age σ R H) (p:List Nat):SR A f G age { σ with path:=p } R (upd H A.gp (.list (nats p))):=by
 have N:=Ad.ndp S.nd;have D:=S.dy
 obtain⟨ls,l1,l2⟩:=D.lines
 have mm:A.gp∈A.chg:=by simp [Ad.chg]
 exact S.set mm ⟨(upd_ne N.n12).trans D.ctx,upd_eq,⟨ls,(upd_ne N.n23.symm).trans l1,S.lines_mono mm l2⟩,fun e=>(upd_ne N.n24.symm).trans (D.slots e),fun e=>(upd_ne N.n25.symm).trans (D.first e),fun e=>(upd_ne N.n26.symm).trans (D.second e),fun e=>(upd_ne N.n27.symm).trans (D.scores e)⟩
theorem SR.setSlots {A f G age σ R H} (S:SR A f G age σ R H) (p:List Int):SR A f G age { σ with slots:=p } R (upd H A.ts (.list (intsL p))):=by
 have N:=Ad.ndp S.nd;have D:=S.dy
 obtain⟨ls,l1,l2⟩:=D.lines
 have mm:A.ts∈A.chg:=by simp [Ad.chg]
 exact S.set mm ⟨(upd_ne N.n14).trans D.ctx,(upd_ne N.n24).trans D.path,⟨ls,(upd_ne N.n34).trans l1,S.lines_mono mm l2⟩,fun zz=>upd_eq,fun e=>(upd_ne N.n45.symm).trans (D.first e),fun e=>(upd_ne N.n46.symm).trans (D.second e),fun e=>(upd_ne N.n47.symm).trans (D.scores e)⟩
theorem SR.setFirst {A f G age σ R H} (S:SR A f G age σ R H) (p:List Int):SR A f G age { σ with first:=p } R (upd H A.k1 (.list (intsL p))):=by
 have N:=Ad.ndp S.nd;have D:=S.dy
 obtain⟨ls,l1,l2⟩:=D.lines
 have mm:A.k1∈A.chg:=by simp [Ad.chg]
 exact S.set mm ⟨(upd_ne N.n15).trans D.ctx,(upd_ne N.n25).trans D.path,⟨ls,(upd_ne N.n35).trans l1,S.lines_mono mm l2⟩,fun e=>(upd_ne N.n45).trans (D.slots e),fun zz=>upd_eq,fun e=>(upd_ne N.n56.symm).trans (D.second e),fun e=>(upd_ne N.n57.symm).trans (D.scores e)⟩
theorem SR.setSecond {A f G age σ R H} (S:SR A f G age σ R H) (p:List Int):SR A f G age { σ with second:=p } R (upd H A.k2 (.list (intsL p))):=by
 have N:=Ad.ndp S.nd;have D:=S.dy
 obtain⟨ls,l1,l2⟩:=D.lines
 have mm:A.k2∈A.chg:=by simp [Ad.chg]
 exact S.set mm ⟨(upd_ne N.n16).trans D.ctx,(upd_ne N.n26).trans D.path,⟨ls,(upd_ne N.n36).trans l1,S.lines_mono mm l2⟩,fun e=>(upd_ne N.n46).trans (D.slots e),fun e=>(upd_ne N.n56).trans (D.first e),fun zz=>upd_eq,fun e=>(upd_ne N.n67.symm).trans (D.scores e)⟩
theorem SR.setScores {A f G age σ R H} (S:SR A f G age σ R H) (p:List (Int×Int)):SR A f G age { σ with scores:=p } R (upd H A.hd (.idict (scV p))):=by
 have N:=Ad.ndp S.nd;have D:=S.dy
 obtain⟨ls,l1,l2⟩:=D.lines
 have mm:A.hd∈A.chg:=by simp [Ad.chg]
 exact S.set mm ⟨(upd_ne N.n17).trans D.ctx,(upd_ne N.n27).trans D.path,⟨ls,(upd_ne N.n37).trans l1,S.lines_mono mm l2⟩,fun e=>(upd_ne N.n47).trans (D.slots e),fun e=>(upd_ne N.n57).trans (D.first e),fun e=>(upd_ne N.n67).trans (D.second e),fun zz=>upd_eq⟩
theorem SR.setLines {A f G age σ R H} (S:SR A f G age σ R H) {ls:List Nat} {p:List (List Int)} (h:Rows H (Fo A R) ls (p.map intsL)):SR A f G age { σ with lines:=p } R (upd H A.gl (.list (refs ls))):=by
 have N:=Ad.ndp S.nd;have D:=S.dy
 have mm:A.gl∈A.chg:=by simp [Ad.chg]
 exact S.set mm ⟨(upd_ne N.n13).trans D.ctx,(upd_ne N.n23).trans D.path,⟨ls,upd_eq,S.lines_mono mm h⟩,fun e=>(upd_ne N.n34.symm).trans (D.slots e),fun e=>(upd_ne N.n35.symm).trans (D.first e),fun e=>(upd_ne N.n36.symm).trans (D.second e),fun e=>(upd_ne N.n37.symm).trans (D.scores e)⟩
theorem SR.fo {A f G age σ R H} (S:SR A f G age σ R H) {a:Nat} (h:H a=none):Fo A R a :=
 ⟨fun m=>(S.al a m).1 h,S.none_R h⟩
end Bn
namespace Bn
open Bm
theorem lget_of:∀ {xs:List AV} {k:Nat} {v:AV},xs[k]? = some v→lget xs k=v
 | [],k,v,h=>by simp at h
 | x::xs,0,v,h=>by simp at h;rw [lget_0];exact h
 | x::xs,k+1,v,h=>by rw [lget_1];exact lget_of (by simpa using h)
theorem nats_get {l:List Nat} {k x:Nat} (h:l[k]? = some x):lget (nats l) k=.int x:=lget_of (by simp [nats,h])
theorem ints_get {l:List Int} {k:Nat} {x:Int} (h:l[k]? = some x):lget (intsL l) k=.int x:=lget_of (by simp [intsL,h])
theorem refs_get {l:List Nat} {k:Nat} {x:Nat} (h:l[k]? = some x):lget (refs l) k=.ref x:=lget_of (by simp [refs,h])
theorem bools_get {l:List Bool} {k:Nat} {x:Bool} (h:l[k]? = some x):lget (boolsL l) k=.bool x:=lget_of (by simp [boolsL,h])
theorem nats_len {l:List Nat}:(nats l).length=l.length:=by simp [nats]
theorem ints_len {l:List Int}:(intsL l).length=l.length:=by simp [intsL]
theorem refs_len {l:List Nat}:(refs l).length=l.length:=by simp [refs]
theorem bools_len {l:List Bool}:(boolsL l).length=l.length:=by simp [boolsL]
theorem getSome {α:Type} {l:List α} {k:Nat} (h:k < l.length):∃ x,l[k]? = some x:=⟨l[k],by simp [h]⟩
theorem len_of {α:Type} {l:List α} {k:Nat} {x:α} (h:l[k]? = some x):k < l.length:=by
 rcases Nat.lt_or_ge k l.length with q | q
 ·exact q
 ·rw [List.getElem?_eq_none q] at h;cases h
theorem place_nat {i:Int} {k n:Nat} (h:k < n) (e:i=(k:Int)):place i n=some k:=by
 subst e;unfold place;rw [if_pos (by lia),if_pos (by lia)];simp
theorem place_last {n:Nat} (h:0 < n):place (-1) n=some (n - 1):=by
 unfold place;rw [if_neg (by lia),if_pos (by lia)];congr 1;lia
structure GOk (G:Gm):Prop where
 n0:0 < G.kids.length
 n6:G.kids.length≤6
 vals:G.vals.length=G.kids.length
 chk:G.chk.length=G.kids.length
 drw:G.drw.length=G.kids.length
 noi:G.noi.length=G.kids.length
 gai:G.gai.length=G.kids.length
 noiR:∀ (x:Nat) r k,G.noi[x]? = some r→G.kids[x]? = some k→r.length=k.length
 gaiR:∀ (x:Nat) r k,G.gai[x]? = some r→G.kids[x]? = some k→r.length=k.length
 kidR:∀ (x:Nat) k,G.kids[x]? = some k→k.length≤2∧∀ y∈k,x < y∧y < G.kids.length
 valR:∀ v∈G.vals,-20000≤v∧v≤20000
noncomputable def Gm.kid (G:Gm) (x:Nat):List Nat:=(G.kids[x]?).getD []
noncomputable def Gm.val (G:Gm) (x:Nat):Int:=(G.vals[x]?).getD 0
noncomputable def Gm.ck (G:Gm) (x:Nat):Bool:=(G.chk[x]?).getD false
noncomputable def Gm.dr (G:Gm) (x:Nat):Bool:=(G.drw[x]?).getD false
noncomputable def Gm.no (G:Gm) (x:Nat) (m:Nat):Bool:=(((G.noi[x]?).getD [])[m - 1]?).getD false
noncomputable def Gm.ga (G:Gm) (x:Nat) (m:Nat):Int:=(((G.gai[x]?).getD [])[m - 1]?).getD 0
section
variable {A:Ad} {f:Cf} {G:Gm} {age:Int} {σ:Sg} {R H:AHeap}
theorem pos_of {x:Nat} {l:List Nat} (hx:l.getLast? = some x):0 < l.length:=by cases l with
 | nil=>cases hx
 | cons=>exact Nat.succ_pos _
theorem pL (S:SR A f G age σ R H) {x:Nat} (hx:σ.path.getLast? = some x) {Q:AV→Prop} (k:Q (.int x)):vIdx (.ref A.gp) (.int (-1)) H Q :=
 iL S.dy.path (by rw [nats_len];exact place_last (pos_of hx)) (nats_get (by rw [← hx,List.getLast?_eq_getElem?])) k
theorem pX (S:SR A f G age σ R H) {x:Nat} (hx:σ.path.getLast? = some x) {l:Nat} {xs:List AV} {v:AV} {Q:AV→Prop} (h3:H l=some (.list xs)) (h4:x < xs.length) (h5:lget xs x=v) (k:Q v) :
  vAttr theTab (.ref A.g) "path" H (fun w=>vIdx w (.int (-1)) H fun w=>vIdx (.ref l) w H Q) :=
 aG (v:=.ref A.gp) S.st.game.1 rfl rfl trivial (pL S hx (iL h3 (place_nat h4 rfl) h5 k))
theorem lt_refs {F:Nat→Prop} {as:List Nat} {rs:List (List AV)} (h:Rows H F as rs) {i:Nat} {r:List AV} (e:rs[i]? = some r):∃ a,H a=some (.list r)∧i < (refs as).length∧lget (refs as) i=.ref a:=by
 obtain⟨a,e1,e2,e3⟩:=h.at i r e
 exact⟨a,e2,by rw [refs_len];exact len_of e1,refs_get e1⟩
theorem getD_of {α:Type} {l:List α} {k:Nat} {d:α} (h:k < l.length):l[k]? = some ((l[k]?).getD d):=by
 obtain⟨x,e⟩:=getSome h
 rw [e];rfl
theorem g_value (S:SR A f G age σ R H) (O:GOk G) {x:Nat} (hx:σ.path.getLast? = some x) (hN:x < G.kids.length) {n:Nat} {hd:Bool} {Q X:EQ} (h:Q (.int (G.val x)) H):FW theTab (n+1) hd 641 [.ref A.g] H Q X:=by
 have hl:x < G.vals.length:=by rw [O.vals];exact hN
 refine fw_in rfl rfl ?_
 refine aG S.st.game.1 rfl rfl (by trivial) ?_
 exact pX S hx S.st.va.1 (by rw [ints_len];exact hl) (ints_get (getD_of hl)) h
theorem g_in_check (S:SR A f G age σ R H) (O:GOk G) {x:Nat} (hx:σ.path.getLast? = some x) (hN:x < G.kids.length) {n:Nat} {hd:Bool} {Q X:EQ} (h:Q (.bool (G.ck x)) H):FW theTab (n+1) hd 655 [.ref A.g] H Q X:=by
 have hl:x < G.chk.length:=by rw [O.chk];exact hN
 refine fw_in rfl rfl ?_
 refine aG S.st.game.1 rfl rfl (by trivial) ?_
 exact pX S hx S.st.ck.1 (by rw [bools_len];exact hl) (bools_get (getD_of hl)) h
theorem g_is_draw (S:SR A f G age σ R H) (O:GOk G) {x:Nat} (hx:σ.path.getLast? = some x) (hN:x < G.kids.length) {n:Nat} {hd:Bool} {Q X:EQ} (h:Q (.bool (G.dr x)) H):FW theTab (n+1) hd 662 [.ref A.g] H Q X:=by
 have hl:x < G.drw.length:=by rw [O.drw];exact hN
 refine fw_in rfl rfl ?_
 refine aG S.st.game.1 rfl rfl (by trivial) ?_
 exact pX S hx S.st.dr.1 (by rw [bools_len];exact hl) (bools_get (getD_of hl)) h
theorem g_key (S:SR A f G age σ R H) {x:Nat} (hx:σ.path.getLast? = some x) {n:Nat} {hd:Bool} {Q X:EQ} (h:Q (.int ((x:Int)+1)) H):FW theTab (n+1) hd 648 [.ref A.g] H Q X:=by
 refine fw_in rfl rfl ?_
 refine aG S.st.game.1 rfl rfl (by trivial) ?_
 refine pL S hx ?_
 exact bAdd h
theorem kids_at (S:SR A f G age σ R H) {x:Nat} (hN:x < G.kids.length):∃ a,H a=some (.list (nats (G.kid x)))∧x < (refs A.chR).length∧lget (refs A.chR) x=.ref a :=
 lt_refs S.st.chR (by rw [List.getElem?_map,getD_of (d:=[]) hN];rfl)
theorem noisy_at (S:SR A f G age σ R H) (O:GOk G) {x:Nat} (hN:x < G.kids.length):∃ a bs,H a=some (.list (boolsL bs))∧bs.length=(G.kid x).length∧(∀ m,G.no x m=(bs[m - 1]?).getD false)∧x < (refs A.noR).length∧lget (refs A.noR) x=.ref a:=by
 have hv:=getD_of (l:=G.noi) (k:=x) (d:=[]) (by rw [O.noi];exact hN)
 obtain⟨a,h1,h2⟩:=lt_refs S.st.noR (i:=x) (r:=boolsL ((G.noi[x]?).getD [])) (by rw [List.getElem?_map,hv];rfl)
 exact⟨a,_,h1,O.noiR x _ _ hv (getD_of (d:=[]) hN),fun zz=>rfl,h2⟩
theorem gain_at (S:SR A f G age σ R H) (O:GOk G) {x:Nat} (hN:x < G.kids.length):∃ a bs,H a=some (.list (intsL bs))∧bs.length=(G.kid x).length∧(∀ m,G.ga x m=(bs[m - 1]?).getD 0)∧x < (refs A.gaR).length∧lget (refs A.gaR) x=.ref a:=by
 have hv:=getD_of (l:=G.gai) (k:=x) (d:=[]) (by rw [O.gai];exact hN)
 obtain⟨a,h1,h2⟩:=lt_refs S.st.gaR (i:=x) (r:=intsL ((G.gai[x]?).getD [])) (by rw [List.getElem?_map,hv];rfl)
 exact⟨a,_,h1,O.gaiR x _ _ hv (getD_of (d:=[]) hN),fun zz=>rfl,h2⟩
theorem i_pred {m:Nat} (h1:1≤m):(m:Int) - 1=((m - 1:Nat):Int):=by lia
theorem g_is_noisy (S:SR A f G age σ R H) (O:GOk G) {x:Nat} (hx:σ.path.getLast? = some x) (hN:x < G.kids.length) {m:Nat} (h1:1≤m) (h2:m≤(G.kid x).length) {n:Nat} {hd:Bool} {Q X:EQ} (h:Q (.bool (G.no x m)) H):FW theTab (n+1) hd 669 [.ref A.g,.int m] H Q X:=by
 obtain⟨a,bs,a1,a2,a3,a4,a5⟩:=noisy_at S O hN
 have hl:m - 1 < bs.length:=by rw [a2];exact Nat.lt_of_lt_of_le (Nat.sub_lt h1 Nat.one_pos) h2
 rw [a3] at h
 refine fw_in rfl rfl ?_
 refine aG S.st.game.1 rfl rfl (by trivial) ?_
 refine pX S hx S.st.no.1 a4 a5 ?_
 refine bSub ?_
 exact iL a1 (place_nat (by rw [bools_len];exact hl) (i_pred h1)) (bools_get (getD_of hl)) h
theorem g_gain (S:SR A f G age σ R H) (O:GOk G) {x:Nat} (hx:σ.path.getLast? = some x) (hN:x < G.kids.length) {m:Nat} (h1:1≤m) (h2:m≤(G.kid x).length) {n:Nat} {hd:Bool} {Q X:EQ} (h:Q (.int (G.ga x m)) H):FW theTab (n+1) hd 676 [.ref A.g,.int m] H Q X:=by
 obtain⟨a,bs,a1,a2,a3,a4,a5⟩:=gain_at S O hN
 have hl:m - 1 < bs.length:=by rw [a2];exact Nat.lt_of_lt_of_le (Nat.sub_lt h1 Nat.one_pos) h2
 rw [a3] at h
 refine fw_in rfl rfl ?_
 refine aG S.st.game.1 rfl rfl (by trivial) ?_
 refine pX S hx S.st.ga.1 a4 a5 ?_
 refine bSub ?_
 exact iL a1 (place_nat (by rw [ints_len];exact hl) (i_pred h1)) (ints_get (getD_of hl)) h
theorem g_side (S:SR A f G age σ R H) (h0:0 < σ.path.length) {n:Nat} {hd:Bool} {Q X:EQ} (h:Q (.int (((σ.path.length - 1)%2:Nat):Int)) H):FW theTab (n+1) hd 683 [.ref A.g] H Q X:=by
 refine fw_in rfl rfl ?_
 refine aG S.st.game.1 rfl rfl (by trivial) ?_
 refine oL S.dy.path ?_
 refine bSub ?_
 refine .int ⟨?_,?_⟩
 ·rw [nats_len];exact⟨by lia,by decide⟩
 ·have e:((σ.path.length:Int) - 1).toNat=σ.path.length - 1:=by lia
  rw [nats_len,e,show((1:Int)).toNat=1 from rfl,Nat.and_one_is_mod];exact h
noncomputable def Gm.mv (G:Gm) (x:Nat):List Nat:=(List.range (G.kid x).length).map (· + 1)
theorem kid_le (O:GOk G) (x:Nat):(G.kid x).length≤2:=by
 unfold Gm.kid
 cases h:G.kids[x]? with
 | none=>exact Nat.zero_le _
 | some k=>exact(O.kidR x k h).1
theorem ints_mv {x:Nat}:iRng 1 (((G.kid x).length:Int)+1)=nats (G.mv x):=by
 unfold iRng nats Gm.mv
 rw [List.map_map,Int.add_sub_cancel,Int.toNat_natCast]
 exact List.map_congr_left fun k zz=>congrArg AV.int (Int.add_comm 1 k)
theorem g_moves (S:SR A f G age σ R H) (O:GOk G) {x:Nat} (hx:σ.path.getLast? = some x) (hN:x < G.kids.length) {n:Nat} {Q X:EQ} (h:∀ a,H a=none→Q (.ref a) (upd H a (.list (nats (G.mv x))))):FW theTab (n+1) false 615 [.ref A.g] H Q X:=by
 obtain⟨a,a1,a2,a3⟩:=kids_at S hN
 have hl:=kid_le O x
 refine fw_in rfl rfl ?_
 refine aG S.st.game.1 rfl rfl (by trivial) ?_
 refine pX S hx S.st.ch.1 a2 a3 ?_
 refine oL a1 ?_
 refine bAdd ⟨rfl,⟨?_,?_⟩⟩
 ·rw [nats_len];unfold big lim;lia
 ·rw [nats_len,ints_mv];exact h
theorem nats_snoc {l:List Nat} {y:Nat}:nats l++[AV.int (y:Int)]=nats (l++[y]):=by unfold nats;rw [List.map_append];rfl
theorem g_make (S:SR A f G age σ R H) (O:GOk G) {x:Nat} (hx:σ.path.getLast? = some x) (hN:x < G.kids.length) (hp:σ.path.length < 1000) {m y:Nat} (h1:1≤m) (hy:(G.kid x)[m - 1]? = some y) {n:Nat} {Q X:EQ}
  (h:Q .none (upd H A.gp (.list (nats (σ.path++[y]))))):FW theTab (n+1) false 627 [.ref A.g,.int m] H Q X:=by
 obtain⟨a,a1,a2,a3⟩:=kids_at S hN
 have hl:=len_of hy
 refine fw_in rfl rfl ?_
 refine aG S.st.game.1 rfl rfl (by trivial) ?_
 refine pX S hx S.st.ch.1 a2 a3 ?_
 refine dF (by lia) ?_
 refine oL a1 ?_
 refine dF (by rw [nats_len];lia) ?_
 refine aG S.st.game.1 rfl rfl (by trivial) ?_
 refine mL S.dy.path rfl ?_
 refine bSub ?_
 refine iL a1 (place_nat (by rw [nats_len];exact hl) (i_pred h1)) (nats_get hy) ?_
 refine lApp S.dy.path (by rw [nats_len];exact Nat.lt_of_lt_of_le hp (by decide)) ?_
 rw [nats_snoc];exact h
theorem g_undo (S:SR A f G age σ R H) {p:List Nat} {y:Nat} (hp:σ.path=p++[y]) (h1:p≠[]) {n:Nat} {hd:Bool} {Q X:EQ}
  (h:Q .none (upd H A.gp (.list (nats p)))):FW theTab (n+1) hd 634 [.ref A.g] H Q X:=by
 have hq:σ.path.length=p.length+1:=by rw [hp,List.length_append];rfl
 have h0:p.length≠0:=fun e=>h1 (List.length_eq_zero_iff.1 e)
 refine fw_in rfl rfl ?_
 refine aG S.st.game.1 rfl rfl (by trivial) ?_
 refine oL S.dy.path ?_
 refine dF (by rw [nats_len,hq];lia) ?_
 refine aG S.st.game.1 rfl rfl (by trivial) ?_
 refine mL S.dy.path rfl ?_
 refine lPop S.dy.path (by rw [hp,← nats_snoc];exact List.append_ne_nil_of_right_ne_nil _ (List.cons_ne_nil _ _)) ?_
 rw [hp,← nats_snoc,List.dropLast_concat];exact h
end
end Bn
namespace Bn
open Bm
theorem lset_refs:∀ {l:List Nat} {k a:Nat},lset (refs l) k (.ref a)=refs (l.set k a)
 | [],_,_=>rfl
 | _::_,0,_=>rfl
 | _::l,k+1,a=>congrArg (List.cons _) (@lset_refs l k a)
theorem lset_ints:∀ {l:List Int} {k:Nat} {a:Int},lset (intsL l) k (.int a)=intsL (l.set k a)
 | [],_,_=>rfl
 | _::_,0,_=>rfl
 | _::l,k+1,a=>congrArg (List.cons _) (@lset_ints l k a)
theorem sL {l:Nat} {i:Int} {k:Nat} {v:AV} {xs:List AV} {H:AHeap} {Q:AHeap→Prop} (h:H l=some (.list xs)) (e:i=(k:Int)) (hk:k < xs.length) (q:Q (upd H l (.list (lset xs k v)))):vSetI (.ref l) (.int i) v H Q:=by
 subst e
 exact iS h ⟨Int.natCast_nonneg k,Int.ofNat_lt.2 hk⟩ q
theorem sLi {l:Nat} {i:Int} {k:Nat} {x:Int} {sl:List Int} {H:AHeap} {Q:AHeap→Prop} (h:H l=some (.list (intsL sl))) (e:i=(k:Int)) (hk:k < sl.length) (q:Q (upd H l (.list (intsL (sl.set k x))))):vSetI (.ref l) (.int i) (.int x) H Q :=
 sL h e (by rw [ints_len];exact hk) (by rw [lset_ints];exact q)
theorem Rows.set {H:AHeap} {F:Nat→Prop} {as:List Nat} {rs:List (List AV)} (h:Rows H F as rs) {a:Nat} {r:List AV} (e:H a=some (.list r)) (f:F a) (k:Nat):Rows H F (as.set k a) (rs.set k r):=A2.set h ⟨e,f⟩ k
theorem Rows.snoc {H:AHeap} {F:Nat→Prop} {as:List Nat} {rs:List (List AV)} (h:Rows H F as rs) {a:Nat} {r:List AV} (e:H a=some (.list r)) (f:F a):Rows H F (as++[a]) (rs++[r]):=A2.snoc h ⟨e,f⟩
section
variable {A:Ad} {f:Cf} {G:Gm} {age:Int} {σ:Sg} {R H:AHeap}
theorem ctx_len:(ctxFs A f σ).length < 100:=by show 10 < 100;decide
theorem cgame (S:SR A f G age σ R H) {Q:AV→Prop} (q:Q (.ref A.g)):vAttr theTab (.ref A.c) "game" H Q:=aG S.dy.ctx rfl rfl (by trivial) q
theorem cmade (S:SR A f G age σ R H) {Q:AV→Prop} (q:Q (.int σ.made)):vAttr theTab (.ref A.c) "made" H Q:=aG S.dy.ctx rfl rfl (by trivial) q
theorem cnodes (S:SR A f G age σ R H) {Q:AV→Prop} (q:Q (.int σ.nodes)):vAttr theTab (.ref A.c) "nodes" H Q:=aG S.dy.ctx rfl rfl (by trivial) q
theorem cmost (S:SR A f G age σ R H) {Q:AV→Prop} (q:Q (.int f.most)):vAttr theTab (.ref A.c) "max_nodes" H Q:=aG S.dy.ctx rfl rfl (by trivial) q
theorem clines (S:SR A f G age σ R H) {Q:AV→Prop} (q:Q (.ref A.gl)):vAttr theTab (.ref A.c) "lines" H Q:=aG S.dy.ctx rfl rfl (by trivial) q
theorem cqd (S:SR A f G age σ R H) {Q:AV→Prop} (q:Q (.int f.calm)):vAttr theTab (.ref A.c) "qdepth" H Q:=aG S.dy.ctx rfl rfl (by trivial) q
theorem cex (S:SR A f G age σ R H) {Q:AV→Prop} (q:Q (.bool true)):vAttr theTab (.ref A.c) "is_exact" H Q:=aG S.dy.ctx rfl rfl (by trivial) q
theorem okv_ite {c:Prop} [Decidable c] {a:Nat}:okv (if c then .ref a else .none):=by split <;> trivial
theorem ctab (S:SR A f G age σ R H) {Q:AV→Prop} (q:Q (tabV A f)):vAttr theTab (.ref A.c) "table" H Q:=aG S.dy.ctx rfl rfl okv_ite q
theorem ckil (S:SR A f G age σ R H) {Q:AV→Prop} (q:Q (kilV A f)):vAttr theTab (.ref A.c) "killers" H Q:=aG S.dy.ctx rfl rfl okv_ite q
theorem chis (S:SR A f G age σ R H) {Q:AV→Prop} (q:Q (hisV A f)):vAttr theTab (.ref A.c) "history" H Q:=aG S.dy.ctx rfl rfl okv_ite q
theorem mS (S:SR A f G age σ R H) {v:Int} {Q:AHeap→Prop} (q:∀ H',SR A f G age { σ with made:=v } R H'→Q H'):vSetA theTab (.ref A.c) "made" (.int v) H Q:=aS S.dy.ctx rfl ctx_len (q _ (S.setCtx _ _))
theorem nS (S:SR A f G age σ R H) {v:Int} {Q:AHeap→Prop} (q:∀ H',SR A f G age { σ with nodes:=v } R H'→Q H'):vSetA theTab (.ref A.c) "nodes" (.int v) H Q:=aS S.dy.ctx rfl ctx_len (q _ (S.setCtx _ _))
theorem x_step_into (S:SR A f G age σ R H) (O:GOk G) {x:Nat} (hx:σ.path.getLast? = some x) (hN:x < G.kids.length) (hp:σ.path.length < 1000) {m y:Nat} (h1:1≤m) (hy:(G.kid x)[m - 1]? = some y) {n:Nat} {Q X:EQ}
  (h:∀ H',SR A f G age { σ with path:=σ.path++[y],made:=σ.made+1 } R H'→Q .none H'):FW theTab (n+2) false 148 [.ref A.c,.int m] H Q X:=by
 refine fw_in rfl rfl ?_
 refine cgame S ?_
 refine mO S.st.game.1 rfl rfl ?_
 refine g_make S O hx hN hp h1 hy ?_
 have S1:=S.setPath (σ.path++[y])
 refine cmade S1 ?_
 refine bAdd ?_
 exact mS S1 h
theorem x_step_back (S:SR A f G age σ R H) {p:List Nat} {y:Nat} (hp:σ.path=p++[y]) (h1:p≠[]) {n:Nat} {hd:Bool} {Q X:EQ}
  (h:∀ H',SR A f G age { σ with path:=p,made:=σ.made - 1 } R H'→Q .none H'):FW theTab (n+2) hd 155 [.ref A.c] H Q X:=by
 refine fw_in rfl rfl ?_
 refine cgame S ?_
 refine mO S.st.game.1 rfl rfl ?_
 refine g_undo S hp h1 ?_
 have S1:=S.setPath p
 refine cmade S1 ?_
 refine bSub ?_
 exact mS S1 h
structure Unw (σ:Sg):Prop where
 hd:σ.path.head? = some 0
 md:σ.made=(σ.path.length:Int) - 1
theorem unwind_loop {n:Nat} {hd:Bool} {X:SX} {Q:SQ} (k:Nat):∀ (σ:Sg) (H:AHeap),SR A f G age σ R H→Unw σ→σ.path.length=k+1 →
  (∀ H',SR A f G age { σ with path:=[0],made:=0 } R H'→Q .next [.ref A.c] H') →
  whileL (fun ρ H K=>vE theTab hd (FW theTab (n+2) hd) (.cmp .gt (.attr (.loc 0) "made") (.c (.int 0))) ρ H (fun v H=>truthy v H fun r=>K r H) (fun n H=>X n ρ H)) (fun ρ H K=>vSs theTab (FW theTab (n+2)) ir_unwind_loop0 hd ρ H K X) (k+1) [.ref A.c] H Q:=by
 induction k with
 | zero =>
  intro σ H S U hl h
  obtain⟨a,ha⟩:=List.length_eq_one_iff.1 hl
  have hm:σ.made=0:=by rw [U.md,hl];rfl
  have h0:=U.hd;rw [ha] at h0;cases h0
  refine whI ?_
  refine cmade S ?_
  refine dF (by lia) ?_
  refine h H ?_
  rw [← ha,← hm];exact S
 | succ k ih =>
  intro σ H S U hl h
  have hm:σ.made=(k:Int)+1:=by rw [U.md,hl];lia
  obtain⟨p,y,hp⟩:∃ p y,σ.path=p++[y]:=⟨σ.path.dropLast,σ.path.getLast (by intro z;rw [z] at hl;cases hl),(List.dropLast_concat_getLast _).symm⟩
  have hpl:p.length=k+1:=by rw [hp,List.length_append] at hl;exact Nat.succ.inj hl
  have hp0:p≠[]:=by intro z;rw [z] at hpl;cases hpl
  refine whI ?_
  refine cmade S ?_
  refine dT (by lia) ?_
  refine x_step_back S hp hp0 fun H' S'=>?_
  refine aN ?_
  refine ih _ H' S' ⟨?_,?_⟩ hpl h
  ·have:=U.hd;rw [hp] at this
   cases p with
   | nil=>exact absurd rfl hp0
   | cons a r=>exact this
  ·show σ.made - 1=(p.length:Int) - 1;rw [hm,hpl];rfl
theorem x_unwind (S:SR A f G age σ R H) (U:Unw σ) {n:Nat} {hd:Bool} {Q X:EQ} (h:∀ H',SR A f G age { σ with path:=[0],made:=0 } R H'→Q .none H'):FW theTab (n+3) hd 162 [.ref A.c] H Q X:=by
 have hl:σ.path.length=(σ.path.length - 1)+1:=by
  cases hh:σ.path with
  | nil=>have:=U.hd;rw [hh] at this;cases this
  | cons a r=>rfl
 refine fw_in rfl rfl ?_
 exact⟨_,unwind_loop _ σ H S U hl fun H' S'=>h H' S'⟩
theorem lines_new (S:SR A f G age σ R H) {a:Nat} {r:List Int} (h:H a=none) {ls:List Nat} {rs:List (List AV)} (l2:Rows H (Fo A R) ls rs):Rows (upd H a (.list (intsL r))) (Fo A R) ls rs :=
 l2.mono fun b q e1 e2=>⟨upd_some e1 fun n=>(by rw [n,h] at e1;cases e1),e2⟩
theorem SR.rowSet (S:SR A f G age σ R H) {a:Nat} {r:List Int} (h:H a=none) {ls:List Nat} (l2:Rows H (Fo A R) ls (σ.lines.map intsL)) (k:Nat):SR A f G age { σ with lines:=σ.lines.set k r } R (upd (upd H a (.list (intsL r))) A.gl (.list (refs (ls.set k a)))):=by
 refine(S.new h).setLines ?_
 have:=(lines_new S (r:=r) h l2).set upd_eq (S.fo h) k
 simpa [List.map_set] using this
theorem SR.rowAdd (S:SR A f G age σ R H) {a:Nat} {r:List Int} (h:H a=none) {ls:List Nat} (l2:Rows H (Fo A R) ls (σ.lines.map intsL)):SR A f G age { σ with lines:=σ.lines++[r] } R (upd (upd H a (.list (intsL r))) A.gl (.list (refs (ls++[a])))):=by
 refine(S.new h).setLines ?_
 have:=(lines_new S (r:=r) h l2).snoc upd_eq (S.fo h)
 simpa using this
noncomputable def clr (l:List (List Int)) (ply:Nat):List (List Int):=(if l.length≤ply then l++[[]] else l).set ply []
theorem new_gl (S:SR A f G age σ R H) {a:Nat} {o:AO} (h:H a=none) {ls:List Nat} (l1:H A.gl=some (.list (refs ls))):upd H a o A.gl=some (.list (refs ls)) :=
 upd_some l1 fun n=>by rw [n,h] at l1;cases l1
theorem x_clear_line (S:SR A f G age σ R H) {ply:Nat} (hp:ply≤σ.lines.length) (hb:σ.lines.length < 1000) {n:Nat} {Q X:EQ}
  (h:∀ H',SR A f G age { σ with lines:=clr σ.lines ply } R H'→Q .none H'):FW theTab (n+1) false 169 [.ref A.c,.int ply] H Q X:=by
 have fin:∀ (σ:Sg) (H:AHeap),SR A f G age σ R H→ply < σ.lines.length→(∀ H',SR A f G age { σ with lines:=σ.lines.set ply [] } R H'→Q .none H') →
   vSs theTab (FW theTab n) (.cons (.setI (.attr (.loc 0) "lines") (.loc 1) (.list .nil)) .nil) false [.ref A.c,.int ply] H (retQ Q) (callX X):=by
  intro σ H S hl h
  obtain⟨ls,l1,l2⟩:=S.dy.lines
  intro a ha
  refine clines (S.new ha) ?_
  refine sL (new_gl S ha l1) rfl (by rw [refs_len,l2.len,List.length_map];exact hl) ?_
  rw [lset_refs]
  exact h _ (S.rowSet (r:=[]) ha l2 ply)
 obtain⟨ls,l1,l2⟩:=S.dy.lines
 have hlen:(refs ls).length=σ.lines.length:=by rw [refs_len,l2.len,List.length_map]
 have ec:clr σ.lines ply=(if σ.lines.length≤ply then σ.lines++[[]] else σ.lines).set ply []:=rfl
 rw [ec] at h
 refine fw_in rfl rfl ?_
 by_cases hc:σ.lines.length≤ply
 ·rw [if_pos hc] at h
  refine⟨2,?_⟩
  refine whI ?_
  refine clines S ?_
  refine oL l1 ?_
  refine dT (by rw [hlen];exact Int.ofNat_le.2 hc) ?_
  refine clines S ?_
  refine mL l1 rfl ?_
  intro a ha
  refine lApp (new_gl S ha l1) (by rw [hlen];exact Nat.lt_of_lt_of_le hb (by decide)) ?_
  have S1:=S.rowAdd (r:=[]) ha l2
  have e:refs ls++[AV.ref a]=refs (ls++[a]):=by unfold refs;rw [List.map_append];rfl
  rw [e]
  refine aN ?_
  refine whI ?_
  refine clines S1 ?_
  refine oL upd_eq ?_
  refine dF (by rw [refs_len,List.length_append,← refs_len,hlen,List.length_singleton];lia) ?_
  exact fin _ _ S1 (by show ply < (σ.lines++[[]]).length;rw [List.length_append];exact Nat.lt_succ_of_le hp) h
 ·rw [if_neg hc] at h
  refine⟨1,?_⟩
  refine whI ?_
  refine clines S ?_
  refine oL l1 ?_
  refine dF (by rw [hlen];exact fun z=>hc (Int.ofNat_le.1 z)) ?_
  exact fin _ _ S (Nat.lt_of_not_le hc) h
theorem x_set_line (S:SR A f G age σ R H) {ply:Nat} {m:Int} {r:List Int} (hr:σ.lines[ply+1]? = some r) (hb:r.length < 1000) {n:Nat} {Q X:EQ}
  (h:∀ H',SR A f G age { σ with lines:=σ.lines.set ply (m::r) } R H'→Q .none H'):FW theTab (n+1) false 176 [.ref A.c,.int ply,.int m] H Q X:=by
 obtain⟨ls,l1,l2⟩:=S.dy.lines
 obtain⟨b,b1,b2,b3⟩:=l2.at (ply+1) (intsL r) (by rw [List.getElem?_map,hr];rfl)
 have hl:=len_of b1
 refine fw_in rfl rfl ?_
 intro a ha
 have S1:=S.new (o:=.list [AV.int m]) ha
 have g1:=new_gl S (o:=.list [AV.int m]) ha l1
 have g2:upd H a (.list [AV.int m]) b=some (.list (intsL r)):=upd_some b2 fun n=>by rw [n,ha] at b2;cases b2
 refine clines S1 ?_
 refine bAdd ?_
 refine iL g1 (place_nat (by rw [refs_len];exact hl) rfl) (refs_get b1) ?_
 refine addL upd_eq g2 (by rw [ints_len];exact Nat.lt_of_lt_of_le (Nat.add_lt_add_left hb 1) (by decide)) ?_
 intro d hd
 have S2:=S1.new (o:=.list (intsL (m::r))) hd
 refine clines S2 ?_
 refine sL (new_gl S1 hd g1) rfl (by rw [refs_len];exact Nat.lt_of_succ_lt hl) ?_
 rw [lset_refs]
 exact h _ (S1.rowSet hd (lines_new S (r:=[m]) ha l2) ply)
theorem x_line_from (S:SR A f G age σ R H) {ply:Nat} {r:List Int} (hr:σ.lines[ply]? = some r) {n:Nat} {Q X:EQ}
  (h:∀ a,H a=none→Q (.ref a) (upd H a (.list (intsL r)))):FW theTab (n+1) false 183 [.ref A.c,.int ply] H Q X:=by
 obtain⟨ls,l1,l2⟩:=S.dy.lines
 obtain⟨b,b1,b2,b3⟩:=l2.at ply (intsL r) (by rw [List.getElem?_map,hr];rfl)
 refine fw_in rfl rfl ?_
 refine clines S ?_
 refine iL l1 (place_nat (by rw [refs_len];exact len_of b1) rfl) (refs_get b1) ?_
 exact oL b2 h
end
end Bn
namespace Bn
open Bm
noncomputable def eMove (e:Int):Int:=e%65536
noncomputable def eVal (e:Int):Int:=e / 65536%65536 - 32768
noncomputable def eDep (e:Int):Int:=e / 4294967296%256 - 8
noncomputable def eBnd (e:Int):Int:=e / 1099511627776%4
noncomputable def eAge (e:Int):Int:=e / 4398046511104%64
noncomputable def eKey (e:Int):Int:=e / 281474976710656
theorem toNat_pow {k:Nat}:(((2 ^ k:Nat):Int) - 1).toNat=2 ^ k - 1:=by
 have:0 < 2 ^ k:=Nat.two_pow_pos k
 lia
theorem bShr {a b:Int} {k:Nat} {H} {Q:EQ} (e:b=(k:Int)) (q:Q (.int (a / 2 ^ k)) H):vBin .shr (.int a) (.int b) H Q:=by
 subst e
 refine .int ⟨Int.natCast_nonneg k,?_⟩
 rw [Int.toNat_natCast,Int.fdiv_eq_ediv_of_nonneg _ (Int.le_of_lt (Int.pow_pos (by decide)))];exact q
theorem two_cast {k:Nat}:((2 ^ k:Nat):Int)=2 ^ k:=Int.natCast_pow 2 k
theorem bMask {a b:Int} {k:Nat} {H} {Q:EQ} (h:0≤a) (e:b=2 ^ k - 1) (q:Q (.int (a%2 ^ k)) H):vBin .band (.int a) (.int b) H Q:=by
 subst e
 obtain⟨n,rfl⟩:=Int.eq_ofNat_of_zero_le h
 have p:(0:Int) < 2 ^ k:=Int.pow_pos (by decide)
 refine .int ⟨⟨h,Int.le_sub_one_of_lt p⟩,?_⟩
 rw [Int.toNat_natCast,← two_cast,toNat_pow,Nat.and_two_pow_sub_one_eq_mod];exact q
theorem bShl {a b:Int} {k:Nat} {H} {Q:EQ} (e:b=(k:Int)) (h1:0≤a) (h2:a < 2 ^ 100) (hk:k≤1000) (q:Q (.int (a*2 ^ k)) H):vBin .shl (.int a) (.int b) H Q:=by
 subst e
 exact .int ⟨⟨Int.lt_of_lt_of_le (by decide) h1,Int.lt_of_lt_of_le h2 (by decide),Int.natCast_nonneg k,Int.ofNat_le.2 hk⟩,q⟩
theorem bOr {a b:Int} {k:Nat} {H} {Q:EQ} (h1:0≤a) (h2:a < 2 ^ k) (h3:0≤b) (q:Q (.int (a+b*2 ^ k)) H):vBin .bor (.int a) (.int (b*2 ^ k)) H Q:=by
 have p:(0:Int) < 2 ^ k:=Int.pow_pos (by decide)
 refine .int ⟨⟨h1,Int.mul_nonneg h3 (Int.le_of_lt p)⟩,?_⟩
 obtain⟨n,rfl⟩:=Int.eq_ofNat_of_zero_le h1
 obtain⟨m,rfl⟩:=Int.eq_ofNat_of_zero_le h3
 rw [← two_cast] at h2 q ⊢
 rw [← Int.natCast_mul,Int.toNat_natCast,Int.toNat_natCast,Nat.or_comm,Nat.mul_comm,← Nat.two_pow_add_eq_or_of_lt (Int.ofNat_lt.1 h2),Int.natCast_add,Int.add_comm,Nat.mul_comm]
 exact q
theorem bMul {a b:Int} {H} {Q:EQ} (h1:-(2 ^ 62) < a) (h2:a < 2 ^ 62) (q:Q (.int (a*b)) H):vBin .mul (.int a) (.int b) H Q:=.int ⟨⟨h1,h2⟩,q⟩
theorem bMod {a b:Int} {H} {Q:EQ} (h:0 < b) (q:Q (.int (a%b)) H):vBin .mod (.int a) (.int b) H Q:=by
 refine .int ⟨Int.ne_of_gt h,?_⟩
 rw [Int.fmod_eq_emod_of_nonneg _ (Int.le_of_lt h)];exact q
noncomputable def upk (e:Int):List AV:=[.int (eKey e),.int (eMove e),.int (eVal e),.int (eDep e),.int (eBnd e),.int (eAge e)]
theorem up1 {b e H} {Q:AV→Prop} (q:Q (.int (eMove e))):vIdx (.ref b) (.int 1) (upd H b (.tup (upk e))) Q:=iT (j:=1) upd_eq rfl rfl q
theorem up2 {b e H} {Q:AV→Prop} (q:Q (.int (eVal e))):vIdx (.ref b) (.int 2) (upd H b (.tup (upk e))) Q:=iT (j:=2) upd_eq rfl rfl q
theorem up3 {b e H} {Q:AV→Prop} (q:Q (.int (eDep e))):vIdx (.ref b) (.int 3) (upd H b (.tup (upk e))) Q:=iT (j:=3) upd_eq rfl rfl q
theorem up4 {b e H} {Q:AV→Prop} (q:Q (.int (eBnd e))):vIdx (.ref b) (.int 4) (upd H b (.tup (upk e))) Q:=iT (j:=4) upd_eq rfl rfl q
theorem x_unpack {e:Int} (h:0≤e) {n:Nat} {H:AHeap} {Q X:EQ} {hd:Bool} (k:∀ a,H a=none→Q (.ref a) (upd H a (.tup (upk e)))):FW theTab (n+1) hd 197 [.int e] H Q X:=by
 have d (k:Nat):0≤e / 2 ^ k:=Int.ediv_nonneg h (Int.le_of_lt (Int.pow_pos (by decide)))
 refine fw_in rfl rfl ?_
 refine bMask (k:=16) h (by decide) ?_
 refine bShr (k:=16) rfl ?_
 refine bMask (k:=16) (d 16) (by decide) ?_
 refine bSub ?_
 refine bSub ?_
 refine bShr (k:=32) rfl ?_
 refine bMask (k:=8) (d 32) (by decide) ?_
 refine bAdd ?_
 refine bShr (k:=48) rfl ?_
 refine bShr (k:=40) rfl ?_
 refine bMask (k:=2) (d 40) (by decide) ?_
 refine bShr (k:=42) rfl ?_
 refine bMask (k:=6) (d 42) (by decide) ?_
 have e1:e / 2 ^ 16%2 ^ 16 - 32767 - 1=eVal e:=Int.sub_sub _ _ _
 rw [e1]
 exact k
noncomputable def mkE (key move v d b age:Int):Int:=move+(v+32767+1)*2 ^ 16+(d - -8)*2 ^ 32+b*2 ^ 40+age*2 ^ 42+key*2 ^ 48
structure EOk (key move v d b age:Int):Prop where
 k0:0≤key
 k1:key < 100
 m0:0≤move
 m1:move≤65535
 v0:-32767≤v
 v1:v≤32767
 d0:-8≤d
 d1:d≤247
 b0:0≤b
 b1:b≤3
 a0:0≤age
 a1:age < 64
structure Bt (a:Int) (k:Nat):Prop where
 l:0≤a
 h:a < 2 ^ k
theorem Bt.add {a x:Int} {i j k:Nat} (A:Bt a i) (X:Bt x j) (e:k=i+j):Bt (a+x*2 ^ i) k:=by
 have p:(0:Int) < 2 ^ i:=Int.pow_pos (by decide)
 refine⟨Int.add_nonneg A.l (Int.mul_nonneg X.l (Int.le_of_lt p)),?_⟩
 have h1:(x+1)*2 ^ i≤2 ^ j*2 ^ i:=Int.mul_le_mul_of_nonneg_right X.h (Int.le_of_lt p)
 rw [e,Nat.add_comm,Int.pow_add]
 rw [Int.add_mul,Int.one_mul] at h1
 have:=A.h
 lia
theorem Bt.hi {a x:Int} {i:Nat} (A:Bt a i):(a+x*2 ^ i) / 2 ^ i=x:=by
 have p:(2:Int) ^ i≠0:=Int.ne_of_gt (Int.pow_pos (by decide))
 rw [Int.add_mul_ediv_right _ _ p,Int.ediv_eq_zero_of_lt A.l A.h,Int.zero_add]
theorem Bt.lo {a x:Int} {i:Nat} (A:Bt a i):(a+x*2 ^ i)%2 ^ i=a:=by
 rw [Int.add_mul_emod_self_right,Int.emod_eq_of_lt A.l A.h]
theorem Bt.cut {a x:Int} {i j k:Nat} (e:j=i+k):(a+x*2 ^ j) / 2 ^ i%2 ^ k=a / 2 ^ i%2 ^ k:=by
 have p:(2:Int) ^ i≠0:=Int.ne_of_gt (Int.pow_pos (by decide))
 rw [e,Nat.add_comm,Int.pow_add,← Int.mul_assoc,Int.add_mul_ediv_right _ _ p,Int.add_mul_emod_self_right]
theorem Bt.cut' {a x:Int} {i j k l:Nat} (e:j=i+l) (e2:l=k+(l - k)):(a+x*2 ^ j) / 2 ^ i%2 ^ k=a / 2 ^ i%2 ^ k:=by
 have p:(2:Int) ^ i≠0:=Int.ne_of_gt (Int.pow_pos (by decide))
 rw [e,Nat.add_comm,Int.pow_add,← Int.mul_assoc,Int.add_mul_ediv_right _ _ p,e2,Nat.add_comm,Int.pow_add,← Int.mul_assoc,Int.add_mul_emod_self_right]
structure EB (key move v d b age:Int):Prop where
 m:Bt move 16
 v:Bt (v+32767+1) 16
 d:Bt (d - -8) 8
 b:Bt b 2
 a:Bt age 6
 k:Bt key 7
theorem EOk.bt {key move v d b age:Int} (o:EOk key move v d b age):EB key move v d b age:=by
 obtain⟨k0,k1,m0,m1,v0,v1,d0,d1,b0,b1,a0,a1⟩:=o
 exact⟨⟨m0,Int.lt_add_one_of_le m1⟩,⟨by lia,by lia⟩,⟨by lia,by lia⟩,⟨b0,Int.lt_add_one_of_le b1⟩,⟨a0,a1⟩,⟨k0,Int.lt_trans k1 (by decide)⟩⟩
theorem mkE_all {key move v d b age:Int} (o:EOk key move v d b age):0≤mkE key move v d b age∧eMove (mkE key move v d b age)=move∧eVal (mkE key move v d b age)=v∧eDep (mkE key move v d b age)=d∧eBnd (mkE key move v d b age)=b∧eAge (mkE key move v d b age)=age∧eKey (mkE key move v d b age)=key:=by
 have B:=o.bt
 have B1:=B.m.add B.v (k:=32) rfl
 have B2:=B1.add B.d (k:=40) rfl
 have B3:=B2.add B.b (k:=42) rfl
 have B4:=B3.add B.a (k:=48) rfl
 refine⟨(B4.add B.k (k:=55) rfl).l,?_,?_,?_,?_,?_,B4.hi⟩
 ·have h:∀ x:Int,x / 2 ^ 0=x:=Int.ediv_one
  show mkE key move v d b age%2 ^ 16=move
  rw [← h (mkE key move v d b age)]
  unfold mkE
  rw [Bt.cut' (l:=48) rfl rfl,Bt.cut' (l:=42) rfl rfl,Bt.cut' (l:=40) rfl rfl,Bt.cut' (l:=32) rfl rfl,Bt.cut' (l:=16) rfl rfl,h,Int.emod_eq_of_lt B.m.l B.m.h]
 ·show mkE key move v d b age / 2 ^ 16%2 ^ 16 - 32768=v
  unfold mkE
  rw [Bt.cut' (l:=32) rfl rfl,Bt.cut' (l:=26) rfl rfl,Bt.cut' (l:=24) rfl rfl,Bt.cut' (l:=16) rfl rfl,B.m.hi,Int.emod_eq_of_lt B.v.l B.v.h];lia
 ·show mkE key move v d b age / 2 ^ 32%2 ^ 8 - 8=d
  unfold mkE
  rw [Bt.cut' (l:=16) rfl rfl,Bt.cut' (l:=10) rfl rfl,Bt.cut' (l:=8) rfl rfl,B1.hi,Int.emod_eq_of_lt B.d.l B.d.h];lia
 ·show mkE key move v d b age / 2 ^ 40%2 ^ 2=b
  unfold mkE
  rw [Bt.cut' (l:=8) rfl rfl,Bt.cut' (l:=2) rfl rfl,B2.hi,Int.emod_eq_of_lt B.b.l B.b.h]
 ·show mkE key move v d b age / 2 ^ 42%2 ^ 6=age
  unfold mkE
  rw [Bt.cut' (l:=6) rfl rfl,B3.hi,Int.emod_eq_of_lt B.a.l B.a.h]
theorem withM {e m:Int} (h:0≤e) (h0:0≤m) (h1:m≤65535):0≤e - e%65536+m∧eMove (e - e%65536+m)=m∧eVal (e - e%65536+m)=eVal e∧eDep (e - e%65536+m)=eDep e∧eBnd (e - e%65536+m)=eBnd e∧eAge (e - e%65536+m)=eAge e∧eKey (e - e%65536+m)=eKey e:=by
 have B:Bt m 16:=⟨h0,Int.lt_add_one_of_le h1⟩
 have e1:e - e%65536+m=m+e / 65536*2 ^ 16:=by lia
 have q:∀ k:Int,e / (65536*k)=e / 65536 / k:=fun k=>(Int.ediv_ediv_of_nonneg (by decide)).symm
 have e2:(e - e%65536+m) / 65536=e / 65536:=by rw [e1];exact B.hi
 have q2:∀ k:Int,(e - e%65536+m) / (65536*k)=e / (65536*k):=fun k=>by rw [q,← e2];exact(Int.ediv_ediv_of_nonneg (by decide)).symm
 refine⟨?_,?_,?_,?_,?_,?_,q2 4294967296⟩
 ·rw [e1];exact Int.add_nonneg h0 (Int.mul_nonneg (Int.ediv_nonneg h (by decide)) (by decide))
 ·unfold eMove;rw [e1];exact B.lo
 ·unfold eVal;rw [e2]
 ·exact congrArg (fun z=>z%256 - 8) (q2 65536)
 ·exact congrArg (·% 4) (q2 16777216)
 ·exact congrArg (·% 64) (q2 67108864)
theorem x_pack {key move v d b age:Int} (o:EOk key move v d b age) {n:Nat} {H:AHeap} {Q X:EQ} (k:Q (.int (mkE key move v d b age)) H):FW theTab (n+1) false 190 [.int key,.int move,.int v,.int d,.int b,.int age] H Q X:=by
 have B:=o.bt
 have B1:=B.m.add B.v (k:=32) rfl
 have B2:=B1.add B.d (k:=40) rfl
 have B3:=B2.add B.b (k:=42) rfl
 have B4:=B3.add B.a (k:=48) rfl
 have F:∀ {x:Int} {k:Nat},Bt x k→k≤100→x < 2 ^ 100:=fun X h=>Int.lt_of_lt_of_le X.h (by rw [← two_cast,← two_cast];exact Int.ofNat_le.2 (Nat.pow_le_pow_right (by decide) h))
 refine fw_in rfl rfl ?_
 refine dF (Int.not_lt.2 o.k0) ?_
 refine dF (Int.not_lt.2 o.m0) ?_
 refine dF (Int.not_lt.2 o.m1) ?_
 refine dF (Int.not_lt.2 o.v0) ?_
 refine dF (Int.not_lt.2 o.v1) ?_
 refine dF (Int.not_lt.2 o.d0) ?_
 refine dF (Int.not_lt.2 o.d1) ?_
 refine dF (Int.not_lt.2 o.b0) ?_
 refine dF (Int.not_lt.2 o.b1) ?_
 refine dF (Int.not_lt.2 o.a0) ?_
 refine dF (Int.not_le.2 o.a1) ?_
 refine bAdd ?_
 refine bAdd ?_
 refine bShl (k:=16) rfl B.v.l (F B.v (by decide)) (by decide) ?_
 refine bOr (k:=16) B.m.l B.m.h B.v.l ?_
 refine bSub ?_
 refine bShl (k:=32) rfl B.d.l (F B.d (by decide)) (by decide) ?_
 refine bOr (k:=32) B1.l B1.h B.d.l ?_
 refine bShl (k:=40) rfl B.b.l (F B.b (by decide)) (by decide) ?_
 refine bOr (k:=40) B2.l B2.h B.b.l ?_
 refine bShl (k:=42) rfl B.a.l (F B.a (by decide)) (by decide) ?_
 refine bOr (k:=42) B3.l B3.h B.a.l ?_
 refine bShl (k:=48) rfl B.k.l (F B.k (by decide)) (by decide) ?_
 exact bOr (k:=48) B4.l B4.h B.k.l k
theorem x_with_move {e m:Int} (h:0≤e) {n:Nat} {H:AHeap} {Q X:EQ} (k:Q (.int (e - e%65536+m)) H):FW theTab (n+1) false 232 [.int e,.int m] H Q X:=by
 refine fw_in rfl rfl ?_
 refine bMask (k:=16) h (by decide) ?_
 refine bSub ?_
 exact bAdd k
section
variable {A:Ad} {f:Cf} {G:Gm} {age:Int} {σ:Sg} {R H:AHeap}
theorem x_worth (S:SR A f G age σ R H) {e a:Int} (h:0≤e) {n:Nat} {Q X:EQ} (k:∀ H',SR A f G age σ R H'→Q (.int (eDep e - 8*((a - eAge e)%64))) H'):FW theTab (n+2) false 211 [.int e,.int a] H Q X:=by
 have d:0≤e / 2 ^ 42:=Int.ediv_nonneg h (by decide)
 refine fw_in rfl rfl ?_
 refine x_unpack h fun b hb=>?_
 refine up3 ?_
 refine bShr (k:=42) rfl ?_
 refine bMask (k:=6) d (by decide) ?_
 refine bSub ?_
 refine bMod (by decide) ?_
 refine bMul (by decide) (by decide) ?_
 refine bSub ?_
 exact k _ (S.new hb)
theorem x_pushes_out (S:SR A f G age σ R H) {e dp b a:Int} (h:0≤e) {n:Nat} {Q X:EQ} (k:∀ H',SR A f G age σ R H'→Q (.bool (decide (b=3)||!decide (eAge e=a)||decide (dp > eDep e - 4))) H'):FW theTab (n+2) false 225 [.int e,.int dp,.int b,.int a] H Q X:=by
 have d:0≤e / 2 ^ 42:=Int.ediv_nonneg h (by decide)
 refine fw_in rfl rfl ?_
 by_cases h1:b=3
 ·rw [decide_eq_true h1] at k
  refine dT h1 ?_
  exact dT h1 (k H S)
 ·rw [decide_eq_false h1] at k
  refine dF h1 ?_
  refine bShr (k:=42) rfl ?_
  refine bMask (k:=6) d (by decide) ?_
  by_cases h2:eAge e=a
  ·rw [decide_eq_true h2] at k
   refine nF h2 ?_
   refine x_unpack h fun b' hb=>?_
   refine up3 ?_
   exact bSub (k _ (S.new hb))
  ·rw [decide_eq_false h2] at k
   exact nT h2 (k H S)
theorem ints_range' {s w:Nat}:iRng (s:Int) ((s:Int)+(w:Int))=nats (List.range' s w):=by
 unfold iRng nats
 rw [Int.add_comm,Int.add_sub_cancel,Int.toNat_natCast,List.range'_eq_map_range,List.map_map]
 rfl
theorem rN {lo hi:Int} {s w:Nat} {K:Src→List AV→Prop} (e1:lo=(s:Int)) (e2:hi=(s:Int)+(w:Int)) (hs:s < 1000) (hw:w < 1000) (q:K .rng (nats (List.range' s w))):vRange (.int lo) (.int hi) K:=by
 subst e1;subst e2
 refine .mk ?_ ?_
 ·unfold big lim;lia
 ·rw [ints_range'];exact q
theorem nats_cons {x:Nat} {l:List Nat}:nats (x::l)=AV.int x::nats l:=rfl
theorem inA {sl:List Int} {k:Nat} {e:Int} {l:Nat} {H:AHeap} {Q:AV→Prop} (h:H l=some (.list (intsL sl))) (g:sl[k]? = some e) (q:Q (.int e)):vIdx (.ref l) (.int (k:Int)) H Q :=
 iL h (place_nat (by rw [ints_len];exact len_of g) rfl) (ints_get g) q
noncomputable def FindR (sl:List Int) (key:Int) (s w:Nat) (r:Option Nat):Prop:=∀ (n:Nat) (H:AHeap) (l:Nat) (st wy v4:AV) (Q:SQ) (X:SX),H l=some (.list (intsL sl))→(r=none→∀ v,Q .next [.ref l,st,wy,.int key,v] H)→(∀ k:Nat,r=some k→Q (.ret (.int k)) [.ref l,st,wy,.int key,.int k] H) →
 forL .rng 4 (fun ρ H K=>vSs theTab (FW theTab n) ir_find_slot_loop0 false ρ H K X) (nats (List.range' s w)) [.ref l,st,wy,.int key,v4] H Q
noncomputable def FindP (sl:List Int) (key:Int) (s w:Nat) (r:Option Nat):Prop:=∀ k,r=some k→s≤k∧k < s+w∧∃ e,sl[k]? = some e∧e≠0∧eKey e=key
theorem find_loop (sl:List Int) (key:Int) (w:Nat):∀ s,s+w≤sl.length→∃ r,FindP sl key s w r∧FindR sl key s w r:=by
 induction w with
 | zero=>exact fun s h=>⟨none,(fun zz h=>nomatch h),fun n H l st wy v4 Q X hl h1 h2=>h1 rfl v4⟩
 | succ w ih =>
  intro s h
  obtain⟨e,he⟩:=getSome (l:=sl) (k:=s) (by lia)
  by_cases c:e≠0∧eKey e=key
  ·refine⟨some s,fun k hk=>?_,fun n H l st wy v4 Q X hl h1 h2=>?_⟩
   ·cases hk;exact⟨Nat.le_refl _,Nat.lt_add_of_pos_right (Nat.succ_pos _),e,he,c.1,c.2⟩
   ·refine foI ?_
    refine inA hl he ?_
    refine nT c.1 ?_
    refine inA hl he ?_
    refine bShr (k:=48) rfl ?_
    refine dT c.2 ?_
    exact fR (h2 s rfl)
  ·obtain⟨r,r1,r2⟩:=ih (s+1) (by rw [Nat.add_right_comm];exact h)
   refine⟨r,fun k hk=>?_,fun n H l st wy v4 Q X hl h1 h2=>?_⟩
   ·obtain⟨a,b,c⟩:=r1 k hk;exact⟨Nat.le_of_succ_le a,by rw [Nat.add_right_comm] at b;exact b,c⟩
   ·have go:=r2 n H l st wy (.int s) Q X hl h1 h2
    refine foI ?_
    refine inA hl he ?_
    by_cases d:e=0
    ·refine nF d ?_
     refine nF d ?_
     exact fN trivial go
    ·refine nT d ?_
     refine inA hl he ?_
     refine bShr (k:=48) rfl ?_
     refine dF (fun q=>c ⟨d,q⟩) ?_
     exact fN trivial go
theorem x_find (sl:List Int) (key:Int) (s w:Nat) (h:s+w≤sl.length) (hs:s < 1000) (hw:w < 1000):∃ r:Option Nat,(∀ k,r=some k→s≤k∧k < s+w∧∃ e,sl[k]? = some e∧e≠0∧eKey e=key) ∧
  ∀ (n:Nat) (H:AHeap) (l:Nat) (Q X:EQ),H l=some (.list (intsL sl))→(r=none→Q (.int (-1)) H)→(∀ k:Nat,r=some k→Q (.int k) H)→FW theTab (n+1) false 204 [.ref l,.int s,.int w,.int key] H Q X:=by
 obtain⟨r,r1,r2⟩:=find_loop sl key w s h
 refine⟨r,r1,fun n H l Q X hl h1 h2=>?_⟩
 refine fw_in rfl rfl ?_
 refine bAdd ?_
 refine rN rfl rfl hs hw ⟨rfl,?_⟩
 exact r2 n H l _ _ _ _ _ hl (fun z zz=>h1 z) h2
noncomputable def VicR (sl:List Int) (ag:Int) (s w fd:Nat) (r:Bool) (k:Nat):Prop:=∀ (n:Nat) (A:Ad) (f:Cf) (G:Gm) (age:Int) (σ:Sg) (R H:AHeap) (st wy v5:AV) (Q:SQ) (X:SX),f.tab.isSome=true→σ.slots=sl→SR A f G age σ R H →
 (∀ H',SR A f G age σ R H'→r=false→∀ v,Q .next [.ref A.ts,st,wy,.int ag,.int k,v] H')→(∀ H',SR A f G age σ R H'→r=true→∀ v v',Q (.ret (.int k)) [.ref A.ts,st,wy,.int ag,v,v'] H') →
 forL .rng 5 (fun ρ H K=>vSs theTab (FW theTab (n+2)) ir_victim_slot_loop0 false ρ H K X) (nats (List.range' s w)) [.ref A.ts,st,wy,.int ag,.int fd,v5] H Q
theorem victim_loop (sl:List Int) (ag:Int) (hs:∀ e∈sl,0≤e) (w:Nat):∀ (s fd:Nat),s+w≤sl.length→fd < sl.length→∃ (r:Bool) (k:Nat),(k=fd∨s≤k∧k < s+w)∧VicR sl ag s w fd r k:=by
 induction w with
 | zero=>exact fun s fd h hf=>⟨false,fd,.inl rfl,fun n A f G age σ R H st wy v5 Q X ht hq S h1 h2=>h1 H S rfl v5⟩
 | succ w ih =>
  intro s fd h hf
  have hsl:s < sl.length:=by lia
  obtain⟨e,he⟩:=getSome (l:=sl) (k:=s) hsl
  obtain⟨e',he'⟩:=getSome (l:=sl) (k:=fd) hf
  have p1:0≤e:=hs e (List.mem_of_getElem? he)
  have p2:0≤e':=hs e' (List.mem_of_getElem? he')
  by_cases c:e=0
  ·refine⟨true,s,.inr ⟨Nat.le_refl _,Nat.lt_add_of_pos_right (Nat.succ_pos _)⟩,fun n A f G age σ R H st wy v5 Q X ht hq S h1 h2=>?_⟩
   have hl:=S.dy.slots ht;rw [hq] at hl
   refine foI ?_
   refine inA hl he ?_
   refine dT c ?_
   exact fR (h2 H S rfl _ _)
  ·have step:∀ {P:Prop} [Decidable P] {r:Bool} {k:Nat},(eDep e - 8*((ag - eAge e)%64) < eDep e' - 8*((ag - eAge e')%64)↔P)→VicR sl ag (s+1) w (if P then s else fd) r k→VicR sl ag s (w+1) fd r k:=by
    intro P _ r k hP go n A f G age σ R H st wy v5 Q X ht hq S h1 h2
    have hl:=S.dy.slots ht;rw [hq] at hl
    refine foI ?_
    refine inA hl he ?_
    refine dF c ?_
    refine inA hl he ?_
    refine x_worth S p1 fun H1 S1=>?_
    have hl1:=S1.dy.slots ht;rw [hq] at hl1
    refine inA hl1 he' ?_
    refine x_worth S1 p2 fun H2 S2=>?_
    by_cases d:P
    ·rw [if_pos d] at go
     refine dT (hP.2 d) ?_
     exact fN trivial (go n A f G age σ R H2 st wy _ Q X ht hq S2 h1 h2)
    ·rw [if_neg d] at go
     refine dF (fun z=>d (hP.1 z)) ?_
     exact fN trivial (go n A f G age σ R H2 st wy _ Q X ht hq S2 h1 h2)
   have hq:(if eDep e - 8*((ag - eAge e)%64) < eDep e' - 8*((ag - eAge e')%64) then s else fd)=s∨(if eDep e - 8*((ag - eAge e)%64) < eDep e' - 8*((ag - eAge e')%64) then s else fd)=fd:=by
    split
    ·exact .inl rfl
    ·exact .inr rfl
   obtain⟨r,k,k1,k2⟩:=ih (s+1) (if eDep e - 8*((ag - eAge e)%64) < eDep e' - 8*((ag - eAge e')%64) then s else fd) (by rw [Nat.add_right_comm];exact h) (by
    rcases hq with q | q
    ·rw [q];exact hsl
    ·rw [q];exact hf)
   refine⟨r,k,?_,step Iff.rfl k2⟩
   rcases k1 with k1 | ⟨k1,k3⟩
   ·rw [k1]
    rcases hq with q | q
    ·rw [q];exact .inr ⟨Nat.le_refl _,Nat.lt_add_of_pos_right (Nat.succ_pos _)⟩
    ·exact .inl q
   ·rw [Nat.add_right_comm] at k3
    exact .inr ⟨Nat.le_of_succ_le k1,k3⟩
theorem x_victim (sl:List Int) (ag:Int) (hs:∀ e∈sl,0≤e) (s w:Nat) (h:s+w≤sl.length) (h0:0 < w) (h1:s < 1000) (h2:w < 1000):∃ k:Nat,s≤k∧k < s+w ∧
  ∀ (n:Nat) (A:Ad) (f:Cf) (G:Gm) (age:Int) (σ:Sg) (R H:AHeap) (Q X:EQ),f.tab.isSome=true→σ.slots=sl→SR A f G age σ R H→(∀ H',SR A f G age σ R H'→Q (.int k) H') →
   FW theTab (n+3) false 218 [.ref A.ts,.int s,.int w,.int ag] H Q X:=by
 have hsw:s < s+w:=Nat.lt_add_of_pos_right h0
 obtain⟨r,k,k1,k2⟩:=victim_loop sl ag hs w s s h (Nat.lt_of_lt_of_le hsw h)
 have k3:s≤k∧k < s+w:=k1.elim (fun e=>by rw [e];exact⟨Nat.le_refl _,hsw⟩) id
 refine⟨k,k3.1,k3.2,fun n A f G age σ R H Q X ht hq S hh=>?_⟩
 refine fw_in rfl rfl ?_
 refine bAdd ?_
 refine rN rfl rfl h1 h2 ⟨rfl,?_⟩
 exact k2 n A f G age σ R H _ _ _ _ _ ht hq S (fun H' S' zz zz=>hh H' S') (fun H' S' zz zz zz=>hh H' S')
end
end Bn
namespace Bn
open Bm
noncomputable def sv_if:IS:=match ir_TransTable_save with
 | .cons _ (.cons _ (.cons _ (.cons s _)))=>s
 | _=>.bad
noncomputable def sv_rest:ISs:=match ir_TransTable_save with
 | .cons _ (.cons _ (.cons _ (.cons _ r)))=>r
 | _=>.nil
noncomputable def sv_put:IS:=match sv_rest with
 | .cons _ (.cons _ (.cons s _))=>s
 | _=>.bad
noncomputable def TOk (V:Int→Int→Int→Int→Prop) (sl:List Int):Prop:=∀ e∈sl,0≤e∧(e≠0→V (eKey e) (eVal e) (eDep e) (eBnd e))
theorem TOk.set {V sl} (h:TOk V sl) {e:Int} (h0:0≤e) (h1:V (eKey e) (eVal e) (eDep e) (eBnd e)) (k:Nat):TOk V (sl.set k e):=fun q m=>by
 rcases List.mem_or_eq_of_mem_set m with m | m
 ·exact h q m
 ·subst m;exact⟨h0,fun zz=>h1⟩
theorem eMove_rng (e:Int):0≤eMove e∧eMove e≤65535:=by unfold eMove;lia
structure TS (f:Cf) (cl w:Nat) (sl:List Int):Prop where
 tab:f.tab=some (cl,w)
 c0:0 < cl
 w0:0 < w
 c1:cl≤2
 w1:w≤2
 len:sl.length=cl*w
theorem TS.lt {f cl w sl} (t:TS f cl w sl) (key:Nat):key%cl*w+w≤sl.length:=by
 rw [t.len]
 have:=Nat.mod_lt key t.c0
 calc key%cl*w+w=(key%cl+1)*w:=by rw [Nat.add_mul,Nat.one_mul]
  _≤cl*w:=Nat.mul_le_mul_right w this
theorem TS.sm {f cl w sl} (t:TS f cl w sl) (key:Nat):key%cl*w < 1000:=by
 have h1:=t.lt key
 have h2:=t.len
 have h3:cl*w≤2*2:=Nat.mul_le_mul t.c1 t.w1
 lia
section
variable {A:Ad} {f:Cf} {G:Gm} {age:Int} {σ:Sg} {R H:AHeap}
theorem tslots (S:SR A f G age σ R H) {cl w:Nat} (e:f.tab=some (cl,w)) {Q:AV→Prop} (q:Q (.ref A.ts)):vAttr theTab (.ref A.t) "slots" H Q:=aG (S.st.tab cl w e).1 rfl rfl (by trivial) q
theorem tclus (S:SR A f G age σ R H) {cl w:Nat} (e:f.tab=some (cl,w)) {Q:AV→Prop} (q:Q (.int cl)):vAttr theTab (.ref A.t) "clusters" H Q:=aG (S.st.tab cl w e).1 rfl rfl (by trivial) q
theorem tways (S:SR A f G age σ R H) {cl w:Nat} (e:f.tab=some (cl,w)) {Q:AV→Prop} (q:Q (.int w)):vAttr theTab (.ref A.t) "ways" H Q:=aG (S.st.tab cl w e).1 rfl rfl (by trivial) q
theorem tage (S:SR A f G age σ R H) {cl w:Nat} (e:f.tab=some (cl,w)) {Q:AV→Prop} (q:Q (.int age)):vAttr theTab (.ref A.t) "age" H Q:=aG (S.st.tab cl w e).1 rfl rfl (by trivial) q
theorem start_eq {key cl w:Nat}:(key:Int)%(cl:Int)*(w:Int)=((key%cl*w:Nat):Int):=by rw [Int.natCast_mul,Int.natCast_emod]
theorem bStart {cl w:Nat} {sl:List Int} (t:TS f cl w sl) {key:Nat} {Q:AV→AHeap→Prop} (q:Q (.int ((key%cl*w:Nat):Int)) H):vBin .mul (.int ((key:Int)%(cl:Int))) (.int (w:Int)) H Q:=by
 rw [← start_eq] at q
 have h1:(cl:Int)≠0:=Int.ofNat_ne_zero.2 (Nat.ne_of_gt t.c0)
 have h2:=Int.emod_lt_of_pos (key:Int) (Int.natCast_pos.2 t.c0)
 exact bMul (Int.lt_of_lt_of_le (by decide) (Int.emod_nonneg _ h1)) (Int.lt_trans h2 (Int.lt_of_le_of_lt (Int.ofNat_le.2 t.c1) (by decide))) q
theorem TS.sl {cl w:Nat} {sl:List Int} (t:TS f cl w sl) {most:Int} (S:SR A { f with most:=most } G age σ R H) (hq:σ.slots=sl):H A.ts=some (.list (intsL sl)):=by
 rw [← hq];exact S.dy.slots (by show f.tab.isSome=true;rw [t.tab];rfl)
theorem x_probe {V} {cl w:Nat} {sl:List Int} (t:TS f cl w sl) (hV:TOk V sl) (key:Nat):∃ r:Option (Int×Int×Int×Int),(∀ m v d b,r=some (m,v,d,b)→0≤m∧m≤65535∧V key v d b) ∧
  ∀ (n:Nat) (A:Ad) (most:Int) (G:Gm) (age:Int) (σ:Sg) (R H:AHeap) (Q X:EQ),σ.slots=sl→SR A { f with most:=most } G age σ R H →
   (r=none→Q .none H)→(∀ m v d b H1 a,r=some (m,v,d,b)→SR A { f with most:=most } G age σ R H1→H1 a=none→Q (.ref a) (upd H1 a (.tup [.int m,.int v,.int d,.int b]))) →
   FW theTab (n+2) false 253 [.ref A.t,.int key] H Q X:=by
 obtain⟨r,r1,r2⟩:=x_find sl (key:Int) (key%cl*w) w (t.lt key) (t.sm key) (Nat.lt_of_le_of_lt t.w1 (by decide))
 refine⟨r.map fun k=>(eMove (sl[k]?.getD 0),eVal (sl[k]?.getD 0),eDep (sl[k]?.getD 0),eBnd (sl[k]?.getD 0)),?_,fun n A most G age σ R H Q X hq S h1 h2=>?_⟩
 ·intro m v d b z
  cases r with
  | none=>cases z
  | some k =>
   obtain⟨_,_,e,he,e0,ek⟩:=r1 k rfl
   rw [Option.map_some,he] at z;cases z
   exact⟨(eMove_rng e).1,(eMove_rng e).2,ek ▸ (hV e (List.mem_of_getElem? he)).2 e0⟩
 ·have ht:({ f with most:=most }:Cf).tab=some (cl,w):=t.tab
  have hl:=t.sl S hq
  refine fw_in rfl rfl ?_
  refine tslots S ht ?_
  refine tclus S ht ?_
  refine bMod (Int.natCast_pos.2 t.c0) ?_
  refine tways S ht ?_
  refine bStart t ?_
  refine tways S ht ?_
  refine r2 n H A.ts _ _ hl (fun z=>?_) (fun k z=>?_)
  ·refine dT (by decide) ?_
   exact h1 (by rw [z];rfl)
  ·obtain⟨_,_,e,he,e0,ek⟩:=r1 k z
   refine dF (Int.not_lt.2 (Int.natCast_nonneg k)) ?_
   refine tslots S ht ?_
   refine inA hl he ?_
   refine x_unpack (hV e (List.mem_of_getElem? he)).1 fun b hb=>?_
   refine up1 ?_
   refine up2 ?_
   refine up3 ?_
   refine up4 ?_
   intro a ha
   exact h2 _ _ _ _ _ a (by rw [z,Option.map_some,he];rfl) (S.new hb) ha
theorem x_save {V} {cl w:Nat} {sl:List Int} (t:TS f cl w sl) (hV:TOk V sl) (key:Nat) {m v d b:Int} (o:EOk key m v d b age) (hv:V key v d b):∃ sl',TS f cl w sl'∧TOk V sl' ∧
  ∀ (n:Nat) (A:Ad) (most:Int) (G:Gm) (σ:Sg) (R H:AHeap) (Q X:EQ),σ.slots=sl→SR A { f with most:=most } G age σ R H →
   (∀ H',SR A { f with most:=most } G age { σ with slots:=sl' } R H'→Q .none H') →
   FW theTab (n+4) false 260 [.ref A.t,.int key,.int m,.int v,.int d,.int b] H Q X:=by
 have hw:w < 1000:=Nat.lt_of_le_of_lt t.w1 (by decide)
 obtain⟨r,r1,r2⟩:=x_find sl (key:Int) (key%cl*w) w (t.lt key) (t.sm key) hw
 obtain⟨vk,v1,v2,v3⟩:=x_victim sl age (fun e he=>(hV e he).1) (key%cl*w) w (t.lt key) t.w0 (t.sm key) hw
 obtain⟨p0,p1,p2,p3,p4,p5,p6⟩:=mkE_all o
 have tset:∀ k e,TS f cl w (sl.set k e):=fun k e=>⟨t.tab,t.c0,t.w0,t.c1,t.w1,by rw [List.length_set];exact t.len⟩
 have hmk:V (eKey (mkE key m v d b age)) (eVal (mkE key m v d b age)) (eDep (mkE key m v d b age)) (eBnd (mkE key m v d b age)):=by rw [p6,p2,p3,p4];exact hv
 have pre:∀ {n:Nat} {A:Ad} {most:Int} {G:Gm} {σ:Sg} {R H:AHeap} {Q X:EQ},σ.slots=sl→SR A { f with most:=most } G age σ R H →
   (r=none→vSs theTab (FW theTab (n+3)) (.cons sv_if sv_rest) false [.ref A.t,.int key,.int m,.int v,.int d,.int b,.int (mkE key m v d b age),.int ((key%cl*w:Nat):Int),.int (-1),.undef] H (retQ Q) (callX X)) →
   (∀ k:Nat,r=some k→vSs theTab (FW theTab (n+3)) (.cons sv_if sv_rest) false [.ref A.t,.int key,.int m,.int v,.int d,.int b,.int (mkE key m v d b age),.int ((key%cl*w:Nat):Int),.int k,.undef] H (retQ Q) (callX X)) →
   FW theTab (n+4) false 260 [.ref A.t,.int key,.int m,.int v,.int d,.int b] H Q X:=by
  intro n A most G σ R H Q X hq S h1 h2
  have ht:({ f with most:=most }:Cf).tab=some (cl,w):=t.tab
  refine fw_in rfl rfl ?_
  refine tage S ht ?_
  refine x_pack o ?_
  refine tclus S ht ?_
  refine bMod (Int.natCast_pos.2 t.c0) ?_
  refine tways S ht ?_
  refine bStart t ?_
  refine tslots S ht ?_
  refine tways S ht ?_
  exact r2 (n+2) H A.ts _ _ (t.sl S hq) h1 h2
 have hlt:=t.lt key
 cases hr:r with
 | none =>
  refine⟨sl.set vk (mkE key m v d b age),tset _ _,hV.set p0 hmk vk,fun n A most G σ R H Q X hq S h1=>?_⟩
  have ht:({ f with most:=most }:Cf).tab=some (cl,w):=t.tab
  refine pre hq S (fun zz=>?_) (fun k z=>by rw [hr] at z;cases z)
  refine dT (by decide) ?_
  refine tslots S ht ?_
  refine tways S ht ?_
  refine tage S ht ?_
  refine v3 n A _ G age σ R H _ _ (by rw [ht];rfl) hq S fun H1 S1=>?_
  refine tslots S1 ht ?_
  refine sLi (t.sl S1 hq) rfl (Nat.lt_of_lt_of_le v2 hlt) ?_
  exact h1 _ (S1.setSlots _)
 | some k =>
  obtain⟨k1,k2,e,he,e0,ek⟩:=r1 k hr
  have q0:=(hV e (List.mem_of_getElem? he)).1
  have qv:=(hV e (List.mem_of_getElem? he)).2 e0
  have em:=eMove_rng e
  obtain⟨en,hen,n0,nv⟩:∃ en:Int,(en=if m=0 then mkE key m v d b age - mkE key m v d b age%65536+e%65536 else mkE key m v d b age)∧0≤en∧V (eKey en) (eVal en) (eDep en) (eBnd en):=by
   refine⟨_,rfl,?_⟩
   by_cases c:m=0
   ·rw [if_pos c]
    obtain⟨a1,a2,a3,a4,a5,a6,a7⟩:=withM p0 em.1 em.2
    show _∧V (eKey (_+eMove e)) (eVal (_+eMove e)) (eDep (_+eMove e)) (eBnd (_+eMove e))
    exact⟨a1,by rw [a7,a3,a4,a5];exact hmk⟩
   ·rw [if_neg c];exact⟨p0,hmk⟩
  have nm:=eMove_rng en
  obtain⟨f1,f2,f3,f4,f5,f6,f7⟩:=withM q0 nm.1 nm.2
  have fin:∀ g:Bool,g=(decide (b=3)||!decide (eAge e=age)||decide (d > eDep e - 4))→∃ sl',TS f cl w sl'∧TOk V sl'∧∀ {n:Nat} {A:Ad} {most:Int} {G:Gm} {σ:Sg} {R H:AHeap} {Q X:EQ} {v1 v2 v3 v4:AV},σ.slots=sl→SR A { f with most:=most } G age σ R H →
    (∀ H',SR A { f with most:=most } G age { σ with slots:=sl' } R H'→Q .none H')→vSs theTab (FW theTab (n+3)) (.cons sv_put .nil) false [.ref A.t,v1,v2,v3,.int d,.int b,.int en,v4,.int k,.int e] H (retQ Q) (callX X):=by
   intro g hg
   have kl:k < sl.length:=Nat.lt_of_lt_of_le k2 hlt
   cases g with
   | true =>
    refine⟨sl.set k en,tset _ _,hV.set n0 nv k,fun {n A most G σ R H Q X v1 v2 v3 v4} hq S h1=>?_⟩
    have ht:({ f with most:=most }:Cf).tab=some (cl,w):=t.tab
    refine tage S ht ?_
    refine x_pushes_out S q0 fun H2 S2=>?_
    refine bT hg.symm ?_
    refine tslots S2 ht ?_
    refine sLi (t.sl S2 hq) rfl kl ?_
    exact h1 _ (S2.setSlots _)
   | false =>
    refine⟨sl.set k (e - e%65536+eMove en),tset _ _,hV.set f1 (by rw [f7,f3,f4,f5];exact qv) k,fun {n A most G σ R H Q X v1 v2 v3 v4} hq S h1=>?_⟩
    have ht:({ f with most:=most }:Cf).tab=some (cl,w):=t.tab
    refine tage S ht ?_
    refine x_pushes_out S q0 fun H2 S2=>?_
    refine bF hg.symm ?_
    refine bMask (k:=16) n0 (by decide) ?_
    refine x_with_move q0 ?_
    refine tslots S2 ht ?_
    refine sLi (t.sl S2 hq) rfl kl ?_
    exact h1 _ (S2.setSlots _)
  obtain⟨sl',t1,t2,go⟩:=fin _ rfl
  refine⟨sl',t1,t2,fun n A most G σ R H Q X hq S h1=>?_⟩
  have ht:({ f with most:=most }:Cf).tab=some (cl,w):=t.tab
  refine pre hq S (fun z=>by rw [hr] at z;cases z) (fun k' z=>?_)
  rw [hr] at z;cases z
  refine dF (Int.not_lt.2 (Int.natCast_nonneg k)) ?_
  refine tslots S ht ?_
  refine inA (t.sl S hq) he ?_
  by_cases c:m=0
  ·rw [if_pos c] at hen
   refine dT c ?_
   refine bMask (k:=16) q0 (by decide) ?_
   refine x_with_move p0 ?_
   rw [hen] at go
   exact go hq S h1
  ·rw [if_neg c] at hen
   refine dF c ?_
   rw [hen] at go
   exact go hq S h1
end
end Bn
namespace Bn
open Bm
section
variable {A:Ad} {f:Cf} {G:Gm} {age:Int} {σ:Sg} {R H:AHeap}
theorem x_new_search (S:SR A f G age σ R H) {cl w:Nat} (e:f.tab=some (cl,w)) {n:Nat} {Q X:EQ}
  (h:∀ H',SR A f G ((age+1)%64) σ R H'→Q .none H'):FW theTab (n+1) false 267 [.ref A.t] H Q X:=by
 have ht:=S.st.tab cl w e
 refine fw_in rfl rfl ?_
 refine tage S e ?_
 refine bAdd ?_
 refine bMod (by decide) ?_
 refine aS ht.1 rfl (by show 4 < 100;decide) ?_
 refine h _ ?_
 have c:∀ b∈A.chg,b≠A.t:=fun b m z=>ht.2.1 (by rw [← z];exact m)
 have x:∀ a o,(∀ fs,o≠.obj 284 fs)→H a=some o→Fo A R a→upd H A.t (.obj 284 (tabFs A cl w ((age+1)%64))) a=some o∧Fo A R a:=fun a o h1 h2 h3 =>
  ⟨upd_some h2 fun z=>by rw [z,ht.1] at h2;exact h1 _ (Option.some.inj h2).symm,h3⟩
 have d:∀ b∈A.chg,upd H A.t (.obj 284 (tabFs A cl w ((age+1)%64))) b=H b:=fun b m=>upd_ne (c b m)
 obtain⟨ls,l1,l2⟩:=S.dy.lines
 have m:∀ {b},b∈[A.c,A.gp,A.gl,A.ts,A.k1,A.k2,A.hd]→b∈A.chg:=id
 refine⟨S.st.mono2 x fun cl' w' e'=>?_,⟨(d _ (m (by simp))).trans S.dy.ctx,(d _ (m (by simp))).trans S.dy.path,⟨ls,(d _ (m (by simp))).trans l1,l2.mono fun a r=>x a _ nofun⟩,fun e=>(d _ (m (by simp))).trans (S.dy.slots e),
  fun e=>(d _ (m (by simp))).trans (S.dy.first e),fun e=>(d _ (m (by simp))).trans (S.dy.second e),fun e=>(d _ (m (by simp))).trans (S.dy.scores e)⟩,S.nd,fun b m=>?_,fun b o z=>upd_some (S.sub b o z) fun q=>by rw [q,ht.2.2] at z;cases z⟩
 ·rw [e] at e';cases e';exact⟨upd_eq,ht.2⟩
 ·show upd H A.t (.obj 284 (tabFs A cl w ((age+1)%64))) b≠none∧_
  rw [d b m];exact S.al b m
theorem kplies (S:SR A f G age σ R H) (k:f.kh=true) {Q:AV→Prop} (q:Q (.int 3)):vAttr theTab (.ref A.kl) "plies" H Q:=aG (S.st.kil k).1 rfl rfl (by trivial) q
theorem kfirst (S:SR A f G age σ R H) (k:f.kh=true) {Q:AV→Prop} (q:Q (.ref A.k1)):vAttr theTab (.ref A.kl) "first" H Q:=aG (S.st.kil k).1 rfl rfl (by trivial) q
theorem ksecond (S:SR A f G age σ R H) (k:f.kh=true) {Q:AV→Prop} (q:Q (.ref A.k2)):vAttr theTab (.ref A.kl) "second" H Q:=aG (S.st.kil k).1 rfl rfl (by trivial) q
theorem hlimit (S:SR A f G age σ R H) (k:f.kh=true) {Q:AV→Prop} (q:Q (.int 400)):vAttr theTab (.ref A.hs) "limit" H Q:=aG (S.st.his k).1 rfl rfl (by trivial) q
theorem hscores (S:SR A f G age σ R H) (k:f.kh=true) {Q:AV→Prop} (q:Q (.ref A.hd)):vAttr theTab (.ref A.hs) "scores" H Q:=aG (S.st.his k).1 rfl rfl (by trivial) q
theorem lt3 {p:Nat} (c:p < 3):(p:Int) < 3:=Int.ofNat_lt.2 c
theorem nlt3 {p:Nat} (c:¬ p < 3):¬ (p:Int) < 3:=fun z=>c (Int.ofNat_lt.1 z)
theorem x_kclear (S:SR A f G age σ R H) (k:f.kh=true) (h1:σ.first.length=3) (h2:σ.second.length=3) {p:Nat} {n:Nat} {Q X:EQ}
  (h:∀ H',SR A f G age { σ with first:=if p < 3 then σ.first.set p 0 else σ.first,second:=if p < 3 then σ.second.set p 0 else σ.second } R H'→Q .none H'):FW theTab (n+1) false 386 [.ref A.kl,.int p] H Q X:=by
 refine fw_in rfl rfl ?_
 refine kplies S k ?_
 by_cases c:p < 3
 ·rw [if_pos c,if_pos c] at h
  refine dT (lt3 c) ?_
  refine kfirst S k ?_
  refine sLi (S.dy.first k) rfl (by rw [h1];exact c) ?_
  have S1:=S.setFirst (σ.first.set p 0)
  refine ksecond S1 k ?_
  refine sLi (S1.dy.second k) rfl (by rw [h2];exact c) ?_
  exact h _ (S1.setSecond _)
 ·rw [if_neg c,if_neg c] at h
  refine dF (nlt3 c) ?_
  exact h _ S
noncomputable def KaddR (sf ss:List Int) (p:Nat) (m:Int) (sf' ss':List Int):Prop:=∀ (n:Nat) (A:Ad) (f:Cf) (G:Gm) (age:Int) (σ:Sg) (R H:AHeap) (Q X:EQ),f.kh=true→σ.first=sf→σ.second=ss→SR A f G age σ R H →
 (∀ H',SR A f G age { σ with first:=sf',second:=ss' } R H'→Q .none H')→FW theTab (n+1) false 372 [.ref A.kl,.int p,.int m] H Q X
theorem x_kadd (sf ss:List Int) (h1:sf.length=3) (h2:ss.length=3) (p:Nat) (m:Int):∃ sf' ss':List Int,sf'.length=3∧ss'.length=3∧KaddR sf ss p m sf' ss':=by
 by_cases c:p < 3
 ·obtain⟨x,hx⟩:=getSome (l:=sf) (k:=p) (by rw [h1];exact c)
  by_cases d:x=m
  ·refine⟨sf,ss,h1,h2,fun n A f G age σ R H Q X k e1 e2 S h=>?_⟩
   subst e1;subst e2
   refine fw_in rfl rfl ?_
   refine kplies S k ?_
   refine dT (lt3 c) ?_
   refine kfirst S k ?_
   refine inA (S.dy.first k) hx ?_
   refine nF d ?_
   exact h H S
  ·refine⟨sf.set p m,ss.set p x,by rw [List.length_set];exact h1,by rw [List.length_set];exact h2,fun n A f G age σ R H Q X k e1 e2 S h=>?_⟩
   subst e1;subst e2
   have S1:=S.setSecond (σ.second.set p x)
   refine fw_in rfl rfl ?_
   refine kplies S k ?_
   refine dT (lt3 c) ?_
   refine kfirst S k ?_
   refine inA (S.dy.first k) hx ?_
   refine nT d ?_
   refine kfirst S k ?_
   refine inA (S.dy.first k) hx ?_
   refine ksecond S k ?_
   refine sLi (S.dy.second k) rfl (by rw [h2];exact c) ?_
   refine kfirst S1 k ?_
   refine sLi (S1.dy.first k) rfl (by show p < σ.first.length;rw [h1];exact c) ?_
   exact h _ (S1.setFirst _)
 ·refine⟨sf,ss,h1,h2,fun n A f G age σ R H Q X k e1 e2 S h=>?_⟩
  subst e1;subst e2
  refine fw_in rfl rfl ?_
  refine kplies S k ?_
  refine dF (nlt3 c) ?_
  refine dF (nlt3 c) ?_
  exact h H S
noncomputable def kpr (kh:Bool) (sf ss:List Int) (p:Nat):Int×Int:=if kh=true∧p < 3 then((sf[p]?).getD 0,(ss[p]?).getD 0) else(0,0)
theorem kilV_t (k:f.kh=true):kilV A f=.ref A.kl:=if_pos k
theorem kilV_f (k:¬ f.kh=true):kilV A f=.none:=if_neg k
theorem hisV_t (k:f.kh=true):hisV A f=.ref A.hs:=if_pos k
theorem hisV_f (k:¬ f.kh=true):hisV A f=.none:=if_neg k
theorem x_killer_pair (S:SR A f G age σ R H) (h1:f.kh=true→σ.first.length=3∧σ.second.length=3) {p n:Nat} {Q X:EQ}
  (h:∀ a,H a=none→Q (.ref a) (upd H a (.tup [.int (kpr f.kh σ.first σ.second p).1,.int (kpr f.kh σ.first σ.second p).2]))):FW theTab (n+2) false 407 [kilV A f,.int p] H Q X:=by
 refine fw_in rfl rfl ?_
 by_cases k:f.kh=true
 ·obtain⟨l1,l2⟩:=h1 k
  rw [kilV_t k]
  refine bF rfl ?_
  refine mO (S.st.kil k).1 rfl rfl ?_
  refine fw_in rfl rfl ?_
  refine kplies S k ?_
  by_cases c:p < 3
  ·have e:kpr f.kh σ.first σ.second p=((σ.first[p]?).getD 0,(σ.second[p]?).getD 0):=if_pos ⟨k,c⟩
   rw [e] at h
   refine dT (lt3 c) ?_
   refine kfirst S k ?_
   refine inA (S.dy.first k) (getD_of (d:=0) (by rw [l1];exact c)) ?_
   refine ksecond S k ?_
   exact inA (S.dy.second k) (getD_of (d:=0) (by rw [l2];exact c)) h
  ·have e:kpr f.kh σ.first σ.second p=(0,0):=if_neg fun q=>c q.2
   rw [e] at h
   refine dF (nlt3 c) ?_
   exact h
 ·have e:kpr f.kh σ.first σ.second p=(0,0):=if_neg fun q=>k q.1
  rw [e] at h;rw [kilV_f k]
  refine bT rfl ?_
  exact h
noncomputable def sget (l:List (Int×Int)) (k:Int):Int:=match l with
 | []=>0
 | p::r=>if p.1=k then p.2 else sget r k
noncomputable def sset (l:List (Int×Int)) (k v:Int):List (Int×Int):=match l with
 | []=>[(k,v)]
 | p::r=>if p.1=k then(k,v)::r else p::sset r k v
theorem dset_sc {k v:Int}:∀ {l:List (Int×Int)},dset (scV l) k (.int v)=scV (sset l k v)
 | []=>rfl
 | p::r=>by
  have ih:dset (scV r) k (.int v)=scV (sset r k v):=dset_sc
  show(if p.1=k then _ else(p.1,AV.int p.2)::dset (scV r) k (.int v))=scV (if p.1=k then _ else p::sset r k v)
  rw [ih]
  split
  ·rename_i c;rw [c];rfl
  ·rfl
theorem dget_sc {k:Int}:∀ {l:List (Int×Int)},(dget (scV l) k).getD (.int 0)=.int (sget l k)
 | []=>rfl
 | p::r=>by
  have ih:(dget (scV r) k).getD (.int 0)=.int (sget r k):=dget_sc
  show(if p.1=k then some (AV.int p.2) else dget (scV r) k).getD _=AV.int (if p.1=k then p.2 else sget r k)
  split
  ·rfl
  ·exact ih
noncomputable def hkeys:List Int:=[1,2,65537,65538]
structure HOk (l:List (Int×Int)):Prop where
 nd:(l.map (·.1)).Nodup
 ks:∀ p∈l,p.1∈hkeys
 vs:∀ p∈l,-400≤p.2∧p.2≤400
theorem nodup_le:∀ {l m:List Int},l.Nodup→(∀ x∈l,x∈m)→l.length≤m.length
 | [],m,_,_=>Nat.zero_le _
 | a::l,m,h,s=>by
  rw [List.nodup_cons] at h
  have ha:=s a (.head _)
  have ih:=nodup_le (l:=l) (m:=m.erase a) h.2 fun x hx=>(List.mem_erase_of_ne (fun e=>h.1 (by rw [← e];exact hx))).2 (s x (.tail _ hx))
  rw [List.length_erase_of_mem ha] at ih
  exact Nat.succ_le_of_lt (Nat.lt_of_le_of_lt ih (Nat.sub_lt (List.length_pos_of_mem ha) Nat.one_pos))
theorem HOk.len {l} (h:HOk l):l.length≤4:=by
 have:=nodup_le (m:=hkeys) h.nd (by intro x hx;obtain⟨p,p1,p2⟩:=List.mem_map.1 hx;rw [← p2];exact h.ks p p1)
 rw [List.length_map] at this;exact this
theorem HOk.get {l} (h:HOk l) (k:Int):-400≤sget l k∧sget l k≤400:=by
 have v:=h.vs
 clear h
 induction l with
 | nil=>simp [sget]
 | cons p r ih =>
  simp only [sget]
  split
  ·exact v p (by simp)
  ·exact ih fun q hq=>v q (by simp [hq])
theorem sset_keys {k v:Int}:∀ {l:List (Int×Int)},∀ q∈sset l k v,q=(k,v)∨q∈l
 | [],q,h=>.inl (List.mem_singleton.1 h)
 | p::r,q,h=>by
  unfold sset at h
  split at h
  ·exact(List.mem_cons.1 h).imp id (.tail _)
  ·rcases List.mem_cons.1 h with h | h
   ·exact .inr (h ▸ .head _)
   ·exact(sset_keys q h).imp id (.tail _)
theorem sset_nodup {k v:Int}:∀ {l:List (Int×Int)},(l.map (·.1)).Nodup→((sset l k v).map (·.1)).Nodup
 | [],h=>List.nodup_cons.2 ⟨List.not_mem_nil,.nil⟩
 | p::r,h=>by
  have h:=List.nodup_cons.1 h
  unfold sset
  split
  ·rename_i c;exact List.nodup_cons.2 (c ▸ h)
  ·rename_i c
   refine List.nodup_cons.2 ⟨fun z=>?_,sset_nodup h.2⟩
   obtain⟨q,q1,q2⟩:=List.mem_map.1 z
   rcases sset_keys q q1 with e | e
   ·rw [e] at q2;exact c q2.symm
   ·exact h.1 (List.mem_map.2 ⟨q,e,q2⟩)
theorem HOk.set {l} (h:HOk l) {k v:Int} (hk:k∈hkeys) (hv:-400≤v∧v≤400):HOk (sset l k v) :=
 ⟨sset_nodup h.nd,fun q m=>by
  rcases sset_keys q m with e | e
  ·rw [e];exact hk
  ·exact h.ks q e,fun q m=>by
  rcases sset_keys q m with e | e
  ·rw [e];exact hv
  ·exact h.vs q e⟩
theorem hkey_in {s m:Nat} (hs:s≤1) (h1:1≤m) (h2:m≤2):((s:Int)*65536+(m:Int))∈hkeys:=by
 have:(s=0∨s=1)∧(m=1∨m=2):=by lia
 rcases this with ⟨rfl | rfl,rfl | rfl⟩ <;> simp [hkeys]
noncomputable def sdn (v b:Int):Int:=if v < 0 then -((-v*b) / 400) else v*b / 400
theorem bFdiv {a b:Int} {H} {Q:EQ} (h1:0 < b) (h2:b < 1000000000) (q:Q (.int (a / b)) H):vBin .fdiv (.int a) (.int b) H Q:=by
 refine .int ⟨⟨h1,h2⟩,?_⟩
 rw [Int.fdiv_eq_ediv_of_nonneg _ (Int.le_of_lt h1)];exact q
theorem sm62 {v:Int} (h:-400≤v∧v≤400):-(2 ^ 62) < v∧v < 2 ^ 62:=⟨Int.lt_of_lt_of_le (by decide) h.1,Int.lt_of_le_of_lt h.2 (by decide)⟩
theorem x_scale {v b:Int} (h:-400≤v∧v≤400) {n:Nat} {H:AHeap} {Q X:EQ} (k:Q (.int (sdn v b)) H):FW theTab (n+1) false 302 [.int v,.int b,.int 400] H Q X:=by
 have s:=sm62 h
 have s2:=sm62 (v:=-v) ⟨Int.neg_le_neg h.2,Int.neg_le_neg h.1⟩
 refine fw_in rfl rfl ?_
 by_cases c:v < 0
 ·have:sdn v b = -((-v*b) / 400):=if_pos c
  rw [this] at k
  refine dT c ?_
  refine bMul s2.1 s2.2 ?_
  exact bFdiv (by decide) (by decide) k
 ·have:sdn v b=v*b / 400:=if_neg c
  rw [this] at k
  refine dF c ?_
  refine bMul s.1 s.2 ?_
  exact bFdiv (by decide) (by decide) k
theorem sdn_ok {v b b':Int} (h:-400≤v∧v≤400) (hb:-400≤b∧b≤400) (e:b'=if b < 0 then -b else b):-400≤v+b - sdn v b'∧v+b - sdn v b'≤400:=by
 have hb':0≤b'∧b'≤400:=by subst e;split <;> lia
 have hbb:-b'≤b∧b≤b':=by subst e;split <;> lia
 clear e
 unfold sdn
 split
 ·rename_i c
  have h1:0≤(400+v)*(400 - b'):=Int.mul_nonneg (by lia) (by lia)
  have h2:0≤-v*b':=Int.mul_nonneg (by lia) (by lia)
  have h4:-v*b'≤-v*400:=Int.mul_le_mul_of_nonneg_left hb'.2 (by lia)
  have h3:(400+v)*(400 - b')=160000+400*v - 400*b'+(-v*b'):=by
   rw [Int.add_mul,Int.mul_sub,Int.mul_sub,Int.neg_mul];lia
  generalize -v*b'=x at *
  lia
 ·rename_i c
  have h1:0≤(400 - v)*(400 - b'):=Int.mul_nonneg (by lia) (by lia)
  have h2:0≤v*b':=Int.mul_nonneg (by lia) (by lia)
  have h4:v*b'≤v*400:=Int.mul_le_mul_of_nonneg_left hb'.2 (by lia)
  have h3:(400 - v)*(400 - b')=160000 - 400*v - 400*b'+v*b':=by
   rw [Int.sub_mul,Int.mul_sub,Int.mul_sub];lia
  generalize v*b'=x at *
  lia
theorem dGet {l:Nat} {d:List (Int×Int)} {k:Int} {Q:EQ} (h:H l=some (.idict (scV d))) (q:Q (.int (sget d k)) H):vDictM l [.int k,.int 0] H Q:=by
 refine .mk h (Eq.subst (motive:=fun x=>Q x H) ?_ q)
 have e:=dget_sc (k:=k) (l:=d)
 cases c:dget (scV d) k with
 | none=>rw [c] at e;exact e.symm
 | some w=>rw [c] at e;exact e.symm
theorem s62 {s:Nat} (hs:s≤1):-(2 ^ 62) < (s:Int)∧(s:Int) < 2 ^ 62:=⟨Int.lt_of_lt_of_le (by decide) (Int.natCast_nonneg s),Int.lt_of_le_of_lt (Int.ofNat_le.2 hs) (by decide)⟩
theorem x_hget (S:SR A f G age σ R H) (k:f.kh=true) {s:Nat} {m:Int} (hs:s≤1) {n:Nat} {Q X:EQ} (h:Q (.int (sget σ.scores ((s:Int)*65536+m))) H):FW theTab (n+1) false 323 [.ref A.hs,.int s,.int m] H Q X:=by
 refine fw_in rfl rfl ?_
 refine hscores S k ?_
 refine mD (S.dy.scores k) ?_
 refine bMul (s62 hs).1 (s62 hs).2 ?_
 refine bAdd ?_
 exact dGet (S.dy.scores k) h
theorem x_past_score (S:SR A f G age σ R H) {s:Nat} {m:Int} (hs:s≤1) {n:Nat} {Q X:EQ} (h:Q (.int (if f.kh=true then sget σ.scores ((s:Int)*65536+m) else 0)) H):FW theTab (n+2) false 414 [hisV A f,.int s,.int m] H Q X:=by
 refine fw_in rfl rfl ?_
 by_cases k:f.kh=true
 ·rw [if_pos k] at h
  rw [hisV_t k]
  refine bF rfl ?_
  refine mO (S.st.his k).1 rfl rfl ?_
  exact x_hget S k hs h
 ·rw [if_neg k] at h
  rw [hisV_f k]
  refine bT rfl ?_
  exact h
theorem x_hupdate (sc:List (Int×Int)) (ho:HOk sc) (s m:Nat) (hs:s≤1) (h1:1≤m) (h2:m≤2) (b:Int):∃ sc',HOk sc' ∧
  ∀ (n:Nat) (A:Ad) (f:Cf) (G:Gm) (age:Int) (σ:Sg) (R H:AHeap) (Q X:EQ),f.kh=true→σ.scores=sc→SR A f G age σ R H →
   (∀ H',SR A f G age { σ with scores:=sc' } R H'→Q .none H')→FW theTab (n+2) false 330 [.ref A.hs,.int s,.int m,.int b] H Q X:=by
 have hk:=hkey_in hs h1 h2
 have hg:=ho.get ((s:Int)*65536+m)
 have hb:-400≤max (-400) (min 400 b)∧max (-400) (min 400 b)≤400:=⟨Int.le_max_left ..,Int.max_le.2 ⟨by decide,Int.min_le_left ..⟩⟩
 refine⟨_,ho.set hk (sdn_ok hg hb rfl),fun n A f G age σ R H Q X k e S h=>?_⟩
 subst e
 have hsc:=S.dy.scores k
 refine fw_in rfl rfl ?_
 refine hlimit S k ?_
 refine hlimit S k ⟨rfl,rfl,?_⟩
 refine bMul (s62 hs).1 (s62 hs).2 ?_
 refine bAdd ?_
 refine hscores S k ?_
 refine mD hsc ?_
 refine dGet hsc ?_
 refine bAdd ?_
 refine hlimit S k ?_
 refine x_scale hg ?_
 refine bSub ?_
 refine hscores S k ?_
 refine iSd hsc (by unfold scV;rw [List.length_map];exact Nat.lt_of_le_of_lt ho.len (by decide)) rfl ?_
 rw [dset_sc]
 exact h _ (S.setScores _)
theorem x_hbonus (S:SR A f G age σ R H) (k:f.kh=true) {d:Nat} (hd:d≤3) {n:Nat} {Q X:EQ} (h:Q (.int (min 400 (16*(d:Int)*d+32*d))) H):FW theTab (n+1) false 337 [.ref A.hs,.int d] H Q X:=by
 refine fw_in rfl rfl ?_
 refine hlimit S k ?_
 refine bMul (by decide) (by decide) ?_
 refine bMul (by lia) (by lia) ?_
 refine bMul (by decide) (by decide) ?_
 exact bAdd ⟨rfl,h⟩
end
end Bn
namespace Bn
open Bm
noncomputable def RewR (s m:Nat) (b:Int) (q:List Nat) (sc sc':List (Int×Int)):Prop:=∀ (n:Nat) (A:Ad) (f:Cf) (G:Gm) (age:Int) (σ:Sg) (R H:AHeap) (l:Nat) (xs:List AV) (v1 v3 v4 v8:AV) (Q:SQ) (X:SX),f.kh=true→σ.scores=sc→R l=some (.list xs)→SR A f G age σ R H →
 (∀ H' v,SR A f G age { σ with scores:=sc' } R H'→Q .next [.ref A.hs,v1,.int s,v3,v4,.int m,.ref l,.int b,v] H') →
 forL (.lst l xs) 8 (fun ρ H K=>vSs theTab (FW theTab (n+2)) ir_reward_loop0 false ρ H K X) (nats q) [.ref A.hs,v1,.int s,v3,v4,.int m,.ref l,.int b,v8] H Q
theorem reward_loop (s m:Nat) (hs:s≤1) (b:Int) (q:List Nat):∀ (sc:List (Int×Int)),HOk sc→(∀ x∈q,1≤x∧x≤2)→∃ sc',HOk sc'∧RewR s m b q sc sc':=by
 induction q with
 | nil=>exact fun sc ho hq=>⟨sc,ho,fun n A f G age σ R H l xs v1 v3 v4 v8 Q X k e hl S h=>by subst e;exact h H v8 S⟩
 | cons x q ih =>
  intro sc ho hq
  obtain⟨hx1,hx2⟩:=hq x (.head _)
  have hq':∀ y∈q,1≤y∧y≤2:=fun y hy=>hq y (.tail _ hy)
  by_cases c:(x:Int)=(m:Int)
  ·obtain⟨sc',ho',go⟩:=ih sc ho hq'
   refine⟨sc',ho',fun n A f G age σ R H l xs v1 v3 v4 v8 Q X k e hl S h=>?_⟩
   refine foI ?_
   refine nF c ?_
   exact fN (S.sub _ _ hl) (go n A f G age σ R H l xs v1 v3 v4 _ Q X k e hl S h)
  ·obtain⟨sc1,ho1,u⟩:=x_hupdate sc ho s x hs hx1 hx2 (-b)
   obtain⟨sc',ho',go⟩:=ih sc1 ho1 hq'
   refine⟨sc',ho',fun n A f G age σ R H l xs v1 v3 v4 v8 Q X k e hl S h=>?_⟩
   refine foI ?_
   refine nT c ?_
   refine mO (S.st.his k).1 rfl rfl ?_
   refine u n A f G age σ R H _ _ k e S fun H1 S1=>?_
   exact fN (S1.sub _ _ hl) (go n A f G age _ R H1 l xs v1 v3 v4 _ Q X k rfl hl S1 h)
theorem x_reward (sf ss:List Int) (h1:sf.length=3) (h2:ss.length=3) (sc:List (Int×Int)) (ho:HOk sc) (s p d m:Nat) (hs:s≤1) (hd:d≤3) (hm:1≤m∧m≤2) (q:List Nat) (hq:∀ x∈q,1≤x∧x≤2) :
  ∃ sf' ss' sc',sf'.length=3∧ss'.length=3∧HOk sc' ∧
  ∀ (n:Nat) (A:Ad) (f:Cf) (G:Gm) (age:Int) (σ:Sg) (R H:AHeap) (l:Nat) (Q X:EQ),f.kh=true→σ.first=sf→σ.second=ss→σ.scores=sc→R l=some (.list (nats q))→SR A f G age σ R H →
   (∀ H',SR A f G age { σ with first:=sf',second:=ss',scores:=sc' } R H'→Q .none H')→FW theTab (n+3) false 400 [.ref A.hs,.ref A.kl,.int s,.int p,.int d,.int m,.ref l] H Q X:=by
 obtain⟨sf',ss',f1,f2,u1⟩:=x_kadd sf ss h1 h2 p m
 obtain⟨sc1,o1,u2⟩:=x_hupdate sc ho s m hs hm.1 hm.2 (min 400 (16*(d:Int)*d+32*d))
 obtain⟨sc2,o2,u3⟩:=reward_loop s m hs (min 400 (16*(d:Int)*d+32*d)) q sc1 o1 hq
 refine⟨sf',ss',sc2,f1,f2,o2,fun n A f G age σ R H l Q X k e1 e2 e3 hl S h=>?_⟩
 refine fw_in rfl rfl ?_
 refine mO (S.st.kil k).1 rfl rfl ?_
 refine u1 _ A f G age σ R H _ _ k e1 e2 S fun H1 S1=>?_
 refine mO (S1.st.his k).1 rfl rfl ?_
 refine x_hbonus S1 k hd ?_
 refine mO (S1.st.his k).1 rfl rfl ?_
 refine u2 _ A f G age { σ with first:=sf',second:=ss' } R H1 _ _ k e3 S1 fun H2 S2=>?_
 refine vO (S2.sub _ _ hl) ⟨rfl,?_⟩
 exact u3 n A f G age { σ with first:=sf',second:=ss',scores:=sc1 } R H2 l _ _ _ _ _ _ _ k rfl hl S2 fun H3 v S3=>h H3 S3
structure Pk where
 tm:Int
 ply:Nat
 stage:Nat
 left:List Nat
 ready:List (Int×Nat)
 losing:List (Int×Nat)
noncomputable def pFs (A:Ad) (f:Cf) (l r lo:Nat) (tm:Int) (ply stage:Nat):List (String×AV) :=
 [("game",.ref A.g),("left",.ref l),("table_move",.int tm),("killers",kilV A f),("history",hisV A f),("ply",.int ply),("stage",.int stage),("ready",.ref r),("losing",.ref lo)]
noncomputable abbrev Tups (R:AHeap):List Nat→List (Int×Nat)→Prop:=A2 fun t x=>R t=some (.tup [.int x.1,.int x.2])
theorem Tups.mono {R R':AHeap} (h:∀ t q,R t=some (.tup q)→R' t=some (.tup q)) {ts xs} (k:Tups R ts xs):Tups R' ts xs:=A2.mono (fun zz zz e=>h _ _ e) k
theorem Tups.snoc {R:AHeap} {ts xs} (h:Tups R ts xs) {t:Nat} {x:Int×Nat} (e:R t=some (.tup [.int x.1,.int x.2])):Tups R (ts++[t]) (xs++[x]):=A2.snoc h e
theorem Tups.at {R:AHeap} {ts xs} (h:Tups R ts xs) {k:Nat} {x:Int×Nat} (e:xs[k]? = some x):∃ t,ts[k]? = some t∧R t=some (.tup [.int x.1,.int x.2]):=A2.at h e
theorem Tups.len {R:AHeap} {ts xs} (h:Tups R ts xs):ts.length=xs.length:=A2.len h
theorem Tups.erase {R:AHeap} {ts xs} (h:Tups R ts xs) (k:Nat):Tups R (ts.eraseIdx k) (xs.eraseIdx k):=A2.erase h k
noncomputable def TupL (R:AHeap) (r:Nat) (xs:List (Int×Nat)):Prop:=∃ ts,R r=some (.list (refs ts))∧Tups R ts xs
theorem tup_put {R:AHeap} {a:Nat} {o:AO} (h:∀ q,R a≠some (.tup q)):∀ t q,R t=some (.tup q)→upd R a o t=some (.tup q) :=
 fun t q e=>upd_some e fun n=>h q (by rw [← n];exact e)
theorem TupL.put {R:AHeap} {r xs} (T:TupL R r xs) {a:Nat} {o:AO} (h:∀ q,R a≠some (.tup q)) (n:r≠a):TupL (upd R a o) r xs:=by
 obtain⟨ts,h1,h2⟩:=T
 exact⟨ts,upd_some h1 n,h2.mono (tup_put h)⟩
theorem none_tup {R:AHeap} {a:Nat} (h:R a=none):∀ q,R a≠some (.tup q):=fun q e=>by rw [h] at e;cases e
theorem list_tup {R:AHeap} {a:Nat} {xs} (h:R a=some (.list xs)):∀ q,R a≠some (.tup q):=fun q e=>by rw [h] at e;cases e
theorem obj_tup {R:AHeap} {a:Nat} {C fs} (h:R a=some (.obj C fs)):∀ q,R a≠some (.tup q):=fun q e=>by rw [h] at e;cases e
theorem ne_nl {R:AHeap} {a b:Nat} {o:AO} (h:R a=none) (h2:R b=some o):b≠a:=fun n=>by rw [n,h] at h2;cases h2
theorem ne_ol {R:AHeap} {a b:Nat} {C fs xs} (h:R a=some (.obj C fs)) (h2:R b=some (.list xs)):b≠a:=fun n=>by rw [n,h] at h2;cases h2
theorem TupL.snoc {R:AHeap} {r t:Nat} {ts xs} (h1:R r=some (.list (refs ts))) (h2:Tups R ts xs) (ht:R t=none) (x:Int×Nat) :
  TupL (upd (upd R t (.tup [.int x.1,.int x.2])) r (.list (refs (ts++[t])))) r (xs++[x]):=by
 have n:=ne_nl ht h1
 refine⟨ts++[t],upd_eq,Tups.snoc (h2.mono fun s q e=>?_) ?_⟩
 ·exact upd_some (tup_put (none_tup ht) s q e) fun n=>by rw [n,h1] at e;cases e
 ·rw [upd_ne n.symm];exact upd_eq
noncomputable def pend (P:Pk):List Nat:=(if P.stage≤3 then P.left else [])++(P.ready.map (·.2)++if P.stage≤4 then P.losing.map (·.2) else [])
structure PR (A:Ad) (f:Cf) (p l r lo:Nat) (P:Pk) (B R:AHeap):Prop where
 obj:R p=some (.obj 464 (pFs A f l r lo P.tm P.ply P.stage))
 left:R l=some (.list (nats P.left))
 ready:TupL R r P.ready
 losing:P.stage≤4→TupL R lo P.losing∧B lo=none∧l≠lo∧r≠lo
 lr:l≠r
 bp:B p=none
 bl:B l=none
 br:B r=none
 sub:∀ a o,B a=some o→R a=some o
theorem PR.put {A f p l r lo P B R} (h:PR A f p l r lo P B R) {a:Nat} {xs ys:List AV} (ha:B a=some (.list xs)):PR A f p l r lo P (upd B a (.list ys)) (upd R a (.list ys)):=by
 have ra:=h.sub _ _ ha
 have n1:p≠a:=fun n=>by have:=h.bp;rw [n,ha] at this;cases this
 have n2:l≠a:=fun n=>by have:=h.bl;rw [n,ha] at this;cases this
 have n3:r≠a:=fun n=>by have:=h.br;rw [n,ha] at this;cases this
 refine⟨upd_some h.obj n1,upd_some h.left n2,h.ready.put (list_tup ra) n3,fun e=>?_,h.lr,(upd_ne n1).trans h.bp,(upd_ne n2).trans h.bl,(upd_ne n3).trans h.br,fun b o e=>?_⟩
 ·obtain⟨h1,h2,h3,h4⟩:=h.losing e
  have n4:lo≠a:=fun n=>by have:=h2;rw [n,ha] at this;cases this
  exact⟨h1.put (list_tup ra) n4,(upd_ne n4).trans h2,h3,h4⟩
 ·by_cases n:b=a
  ·subst n;rw [upd_eq] at e ⊢;exact e
  ·rw [upd_ne n] at e ⊢;exact h.sub b o e
theorem nats_all {l:List Nat}:(nats l).all isInt=true:=by unfold nats;simp [isInt]
theorem rem_nats {i:Int}:∀ {l:List Nat},(nats l).any (isThe i)=true→∃ (m:Nat) (l':List Nat),i=m∧(nats l).eraseP (isThe i)=nats l'∧l.Perm (m::l')
 | [],h=>by simp [nats] at h
 | x::l,h=>by
  by_cases c:(x:Int)=i
  ·refine⟨x,l,c.symm,?_,List.Perm.refl _⟩
   rw [nats_cons,List.eraseP_cons_of_pos (by simp [isThe,c])]
  ·have h':(nats l).any (isThe i)=true:=by simpa [nats_cons,isThe,c] using h
   obtain⟨m,l',h1,h2,h3⟩:=rem_nats h'
   refine⟨m,x::l',h1,?_,(List.Perm.cons x h3).trans (List.Perm.swap m x l')⟩
   rw [nats_cons,List.eraseP_cons_of_neg (by simp [isThe,c]),h2,nats_cons]
noncomputable def FillK (A:Ad) (f:Cf) (G:Gm) (age:Int) (σ:Sg) (B:AHeap) (p r lo:Nat) (P P':Pk) (Q:EQ):Prop :=
 ∀ H' R' l' r',SR A f G age σ R' H'→R' p=some (.obj 464 (pFs A f l' r lo P.tm P.ply P.stage))→PR A f p l' r' lo P' B (upd R' p (.obj 464 (pFs A f l' r' lo P.tm P.ply (P.stage+1))))→Q (.ref r') H'
theorem TupL.obj {R:AHeap} {r p xs C fs C' fs'} (T:TupL R r xs) (h:R p=some (.obj C fs)):TupL (upd R p (.obj C' fs')) r xs:=by
 obtain⟨ts,h1,h2⟩:=T
 exact TupL.put ⟨ts,h1,h2⟩ (obj_tup h) (ne_ol h h1)
theorem TupL.nil {R:AHeap} {r:Nat}:TupL (upd R r (.list [])) r []:=⟨[],upd_eq,trivial⟩
theorem TupL.ne {R:AHeap} {r a:Nat} {xs} (T:TupL R r xs) (h:R a=none):r≠a:=by
 obtain⟨ts,h1,h2⟩:=T
 exact ne_nl h h1
theorem TupL.neO {R:AHeap} {r a:Nat} {xs C fs} (T:TupL R r xs) (h:R a=some (.obj C fs)):r≠a:=by
 obtain⟨ts,h1,h2⟩:=T
 exact ne_ol h h1
theorem sub_none {B R:AHeap} (h:∀ a o,B a=some o→R a=some o) {a:Nat} (n:R a=none):B a=none:=by
 cases e:B a with
 | none=>rfl
 | some o=>rw [h a o e] at n;cases n
theorem sub_put {B R:AHeap} (h:∀ a o,B a=some o→R a=some o) {a:Nat} {o:AO} (n:B a=none):∀ b q,B b=some q→upd R a o b=some q :=
 fun b q e=>upd_some (h b q e) fun z=>by rw [z,n] at e;cases e
theorem PR.end {A:Ad} {f:Cf} {p r lo l' r':Nat} {B R:AHeap} {P P':Pk} (hp:R p=some (.obj 464 (pFs A f l' r lo P.tm P.ply P.stage))) (e1:P'.tm=P.tm) (e2:P'.ply=P.ply) (e3:P'.stage=P.stage+1)
  (hl:R l'=some (.list (nats P'.left))) (hr:TupL R r' P'.ready) (hlo:P'.stage≤4→TupL R lo P'.losing∧B lo=none∧l'≠lo∧r'≠lo) (lr:l'≠r') (bp:B p=none) (bl:B l'=none) (br:B r'=none) (sub:∀ a o,B a=some o→R a=some o) :
  PR A f p l' r' lo P' B (upd R p (.obj 464 (pFs A f l' r' lo P.tm P.ply (P.stage+1)))) :=
 ⟨by rw [e1,e2,e3];exact upd_eq,upd_some hl (ne_ol hp hl),hr.obj hp,fun e=>⟨(hlo e).1.obj hp,(hlo e).2⟩,lr,bp,bl,br,sub_put sub bp⟩
section
variable {A:Ad} {f:Cf} {p l r lo ply st:Nat} {tm:Int} {H:AHeap} {Q:AV→Prop} (h:H p=some (.obj 464 (pFs A f l r lo tm ply st)))
include h
theorem pgame (q:Q (.ref A.g)):vAttr theTab (.ref p) "game" H Q:=aG h rfl rfl (by trivial) q
theorem pleft (q:Q (.ref l)):vAttr theTab (.ref p) "left" H Q:=aG h rfl rfl (by trivial) q
theorem ptm (q:Q (.int tm)):vAttr theTab (.ref p) "table_move" H Q:=aG h rfl rfl (by trivial) q
theorem pkil (q:Q (kilV A f)):vAttr theTab (.ref p) "killers" H Q:=aG h rfl rfl okv_ite q
theorem phis (q:Q (hisV A f)):vAttr theTab (.ref p) "history" H Q:=aG h rfl rfl okv_ite q
theorem pply (q:Q (.int ply)):vAttr theTab (.ref p) "ply" H Q:=aG h rfl rfl (by trivial) q
theorem pstage (q:Q (.int st)):vAttr theTab (.ref p) "stage" H Q:=aG h rfl rfl (by trivial) q
theorem pready (q:Q (.ref r)):vAttr theTab (.ref p) "ready" H Q:=aG h rfl rfl (by trivial) q
theorem plosing (q:Q (.ref lo)):vAttr theTab (.ref p) "losing" H Q:=aG h rfl rfl (by trivial) q
end
theorem pend_0 {P:Pk} (hs:P.stage≤3):pend P=P.left++(P.ready.map (·.2)++P.losing.map (·.2)):=by
 unfold pend;rw [if_pos hs,if_pos (Nat.le_succ_of_le hs)]
theorem x_fill_table (P:Pk) (hs:P.stage=0) (hr:P.ready=[]) (hsm:P.left.length < 1000):∃ left' ready',(pend P).Perm (pend { P with stage:=1,left:=left',ready:=ready' }) ∧
  ∀ (n:Nat) (A:Ad) (f:Cf) (G:Gm) (age:Int) (σ:Sg) (B R H:AHeap) (p l r lo:Nat) (Q X:EQ),SR A f G age σ R H→PR A f p l r lo P B R →
   FillK A f G age σ B p r lo P { P with stage:=1,left:=left',ready:=ready' } Q→FW theTab (n+1) false 447 [.ref p] H Q X:=by
 have hs3:P.stage≤3:=by rw [hs];decide
 have hs4:P.stage≤4:=by rw [hs];decide
 cases c:(nats P.left).any (isThe P.tm) with
 | true =>
  obtain⟨m,l',i1,i2,i3⟩:=rem_nats c
  refine⟨l',[(0,m)],?_,fun n A f G age σ B R H p l r lo Q X S Z K=>?_⟩
  ·rw [pend_0 hs3,pend_0 (show 1≤3 by decide),hr]
   exact(i3.append_right _).trans List.perm_middle.symm
  have hp:=S.sub _ _ Z.obj
  have hl:=S.sub _ _ Z.left
  obtain⟨k1,k2,k3,k4⟩:=Z.losing hs4
  have S1:=S.put (o:=.list (nats l')) (a:=l) (.inl (by rw [Z.left];exact fun q=>nomatch q))
  have lp:=ne_ol Z.obj Z.left
  have Rp1:upd R l (.list (nats l')) p=some (.obj 464 (pFs A f l r lo P.tm P.ply P.stage)):=upd_some Z.obj lp.symm
  refine fw_in rfl rfl ?_
  refine ptm hp ?_
  refine pleft hp ?_
  refine oL hl ⟨nats_all,?_⟩
  refine bF (by rw [c];rfl) ?_
  refine pleft hp ?_
  refine mL hl rfl ?_
  refine ptm hp ?_
  refine lRem hl nats_all c ?_
  rw [i2]
  refine ptm (S1.sub _ _ Rp1) ?_
  intro t ht b hb
  have S2:=S1.put (o:=.tup [.int 0,.int P.tm]) (.inr ht)
  have S3:=S2.put (o:=.list [.ref t]) (.inr hb)
  have rt:=S1.none_R ht
  have rb:=S2.none_R hb
  have bt:B t=none:=sub_none (sub_put Z.sub Z.bl) rt
  have bb:B b=none:=sub_none (sub_put (sub_put Z.sub Z.bl) bt) rb
  have u1:upd (upd R l (.list (nats l'))) t (.tup [.int 0,.int P.tm]) p=some (.obj 464 (pFs A f l r lo P.tm P.ply P.stage)):=upd_some Rp1 (ne_nl rt Rp1)
  have u2:upd (upd R l (.list (nats l'))) t (.tup [.int 0,.int P.tm]) l=some (.list (nats l')):=upd_some upd_eq (ne_nl rt upd_eq)
  refine K _ _ l b S3 (upd_some u1 (ne_nl rb u1)) (PR.end (upd_some u1 (ne_nl rb u1)) rfl rfl (by rw [hs]) (upd_some u2 (ne_nl rb u2)) ?_ (fun zz=>?_) (ne_nl rb u2) Z.bp Z.bl bb (sub_put (sub_put (sub_put Z.sub Z.bl) bt) bb))
  ·refine⟨[t],upd_eq,?_,trivial⟩
   have:upd (upd R l (.list (nats l'))) t (.tup [.int 0,.int P.tm]) t=some (.tup [.int 0,.int m]):=by rw [← i1];exact upd_eq
   exact upd_some this (ne_nl rb this)
  ·have v1:=k1.put (o:=.list (nats l')) (list_tup Z.left) k3.symm
   have v2:=v1.put (o:=.tup [.int 0,.int P.tm]) (none_tup rt) (v1.ne rt)
   exact⟨v2.put (none_tup rb) (v2.ne rb),k2,k3,(v2.ne rb).symm⟩
 | false =>
  refine⟨P.left,[],?_,fun n A f G age σ B R H p l r lo Q X S Z K=>?_⟩
  ·rw [pend_0 hs3,pend_0 (show 1≤3 by decide),hr]
  have hp:=S.sub _ _ Z.obj
  have hl:=S.sub _ _ Z.left
  obtain⟨k1,k2,k3,k4⟩:=Z.losing hs4
  refine fw_in rfl rfl ?_
  refine ptm hp ?_
  refine pleft hp ?_
  refine oL hl ⟨nats_all,?_⟩
  refine bT (by rw [c];rfl) ?_
  intro b hb
  have rb:=S.none_R hb
  have bb:=sub_none Z.sub rb
  exact K _ _ l b (S.put (.inr hb)) (upd_some Z.obj (ne_nl rb Z.obj)) (PR.end (upd_some Z.obj (ne_nl rb Z.obj)) rfl rfl (by rw [hs]) (upd_some Z.left (ne_nl rb Z.left)) TupL.nil (fun zz=>⟨k1.put (none_tup rb) (k1.ne rb),k2,k3,(k1.ne rb).symm⟩) (ne_nl rb Z.left) Z.bp Z.bl bb (sub_put Z.sub bb))
end Bn
namespace Bn
open Bm
noncomputable def Lg (G:Gm) (x:Nat) (m:Nat):Prop:=1≤m∧m≤(G.kid x).length
structure GL (A:Ad) (f:Cf) (p l r lo g q:Nat) (P:Pk) (xs:List AV) (qs:List Nat) (gs ls:List (Int×Nat)) (B R:AHeap):Prop where
 obj:R p=some (.obj 464 (pFs A f l r lo P.tm P.ply P.stage))
 left:R l=some (.list xs)
 gd:TupL R g gs
 qt:R q=some (.list (nats qs))
 los:TupL R lo ls
 gq:g≠q
 glo:g≠lo
 qlo:q≠lo
 lg:l≠g
 lq:l≠q
 llo:l≠lo
 bp:B p=none
 bg:B g=none
 bq:B q=none
 bl:B l=none
 blo:B lo=none
 sub:∀ a o,B a=some o→R a=some o
theorem TupL.put2 {R:AHeap} {r t a:Nat} {xs o ys zs} (T:TupL R r xs) (ht:R t=none) (ha:R a=some (.list ys)) (n:r≠a):TupL (upd (upd R t o) a (.list zs)) r xs :=
 (T.put (none_tup ht) (T.ne ht)).put (list_tup (upd_some ha (ne_nl ht ha))) n
theorem put2 {R:AHeap} {t a b:Nat} {o o' q:AO} (ht:R t=none) (h:R b=some q) (n:b≠a):upd (upd R t o) a o' b=some q:=upd_some (upd_some h (ne_nl ht h)) n
theorem subO {B R:AHeap} (h:∀ a o,B a=some o→R a=some o) {t a:Nat} {o o':AO} (ht:R t=none) (ha:B a=none):∀ b q,B b=some q→upd (upd R t o) a o' b=some q :=
 sub_put (sub_put h (sub_none h ht)) ha
theorem TupL.neL {R:AHeap} {r p xs C fs} (T:TupL R r xs) (h:R p=some (.obj C fs)):p≠r:=fun n=>T.neO h n.symm
theorem GL.addQ {A f p l r lo g q P xs qs gs ls B R} (h:GL A f p l r lo g q P xs qs gs ls B R) (m:Nat):GL A f p l r lo g q P xs (qs++[m]) gs ls B (upd R q (.list (nats qs++[.int m]))):=by
 rw [nats_snoc]
 exact⟨upd_some h.obj (ne_ol h.obj h.qt).symm,upd_some h.left h.lq,h.gd.put (list_tup h.qt) h.gq,upd_eq,h.los.put (list_tup h.qt) h.qlo.symm,h.gq,h.glo,h.qlo,h.lg,h.lq,h.llo,h.bp,h.bg,h.bq,h.bl,h.blo,sub_put h.sub h.bq⟩
theorem GL.addG {A f p l r lo g q P xs qs gs ls B R} (h:GL A f p l r lo g q P xs qs gs ls B R) {ts t:Nat} {tl:List Nat} (h1:R g=some (.list (refs tl))) (h2:Tups R tl gs) (ht:R t=none) (x:Int×Nat) :
  GL A f p l r lo g q P xs qs (gs++[x]) ls B (upd (upd R t (.tup [.int x.1,.int x.2])) g (.list (refs (tl++[t])))) :=
 ⟨put2 ht h.obj (ne_ol h.obj h1).symm,put2 ht h.left h.lg,TupL.snoc h1 h2 ht x,put2 ht h.qt h.gq.symm,h.los.put2 ht h1 h.glo.symm,h.gq,h.glo,h.qlo,h.lg,h.lq,h.llo,h.bp,h.bg,h.bq,h.bl,h.blo,subO h.sub ht h.bg⟩
theorem GL.addL {A f p l r lo g q P xs qs gs ls B R} (h:GL A f p l r lo g q P xs qs gs ls B R) {ts t:Nat} {tl:List Nat} (h1:R lo=some (.list (refs tl))) (h2:Tups R tl ls) (ht:R t=none) (x:Int×Nat) :
  GL A f p l r lo g q P xs qs gs (ls++[x]) B (upd (upd R t (.tup [.int x.1,.int x.2])) lo (.list (refs (tl++[t])))) :=
 ⟨put2 ht h.obj (ne_ol h.obj h1).symm,put2 ht h.left h.llo,h.gd.put2 ht h1 h.glo,put2 ht h.qt h.qlo,TupL.snoc h1 h2 ht x,h.gq,h.glo,h.qlo,h.lg,h.lq,h.llo,h.bp,h.bg,h.bq,h.bl,h.blo,subO h.sub ht h.blo⟩
theorem refs_snoc {tl:List Nat} {t:Nat}:refs tl++[AV.ref t]=refs (tl++[t]):=by unfold refs;rw [List.map_append];rfl
noncomputable def sec (l:List (Int×Nat)):List Nat:=l.map (·.2)
theorem sec_snoc {l:List (Int×Nat)} {a:Int} {m:Nat}:sec (l++[(a,m)])=sec l++[m]:=by unfold sec;rw [List.map_append];rfl
noncomputable def GoodR (G:Gm) (x:Nat) (todo qs:List Nat) (gs ls:List (Int×Nat)) (qs':List Nat) (gs' ls':List (Int×Nat)):Prop :=
 ∀ (n:Nat) (A:Ad) (f:Cf) (age:Int) (σ:Sg) (B R H:AHeap) (p l r lo g q:Nat) (P:Pk) (xs:List AV) (v3 v4:AV) (Q:SQ) (X:SX),σ.path.getLast? = some x→SR A f G age σ R H→GL A f p l r lo g q P xs qs gs ls B R →
   (∀ H' R' v3 v4,SR A f G age σ R' H'→GL A f p l r lo g q P xs qs' gs' ls' B R'→Q .next [.ref p,.ref g,.ref q,v3,v4] H') →
   forL (.lst l xs) 3 (fun ρ H K=>vSs theTab (FW theTab (n+1)) ir_Picker_fill_good_loop0 false ρ H K X) (nats todo) [.ref p,.ref g,.ref q,v3,v4] H Q
theorem app2 {A:Ad} {f:Cf} {G:Gm} {age:Int} {σ:Sg} {R H:AHeap} (S:SR A f G age σ R H) {g:Nat} {tl:List Nat} (t1:R g=some (.list (refs tl))) (hl:tl.length < 1000) {a:Int} {m:Nat} {K:EQ}
  (k:∀ t,R t=none→SR A f G age σ (upd (upd R t (.tup [.int a,.int m])) g (.list (refs (tl++[t])))) (upd (upd H t (.tup [.int a,.int m])) g (.list (refs (tl++[t]))))→K .none (upd (upd H t (.tup [.int a,.int m])) g (.list (refs (tl++[t]))))) :
  ∀ t,H t=none→vListM g "append" [.ref t] (upd H t (.tup [.int a,.int m])) K:=by
 intro t ht
 have rt:=S.none_R ht
 have S1:=S.put (o:=.tup [.int a,.int m]) (.inr ht)
 refine lApp (S1.sub _ _ (upd_some t1 (ne_nl rt t1))) (by rw [refs_len];exact Nat.lt_of_lt_of_le hl (by decide)) ?_
 rw [refs_snoc]
 exact k t rt (S1.put (.inl (by rw [upd_ne (ne_nl rt t1),t1];exact fun q=>nomatch q)))
theorem good_loop (G:Gm) (O:GOk G) (x:Nat) (hN:x < G.kids.length) (todo:List Nat):(∀ m∈todo,Lg G x m)→∀ (qs:List Nat) (gs ls:List (Int×Nat)),todo.length+qs.length+gs.length+ls.length < 1000 →
  ∃ (qs':List Nat) (gs' ls':List (Int×Nat)),(todo++(qs++(sec gs++sec ls))).Perm (qs'++(sec gs'++sec ls'))∧GoodR G x todo qs gs ls qs' gs' ls':=by
 induction todo with
 | nil=>exact fun hm qs gs ls hlen=>⟨qs,gs,ls,List.Perm.refl _,fun n A f age σ B R H p l r lo g q P xs v3 v4 Q X hx S Z h=>h H R v3 v4 S Z⟩
 | cons m todo ih =>
  intro hm qs gs ls hlen
  obtain⟨m1,m2⟩:=hm m (.head _)
  have hm':∀ y∈todo,Lg G x y:=fun y hy=>hm y (.tail _ hy)
  rw [List.length_cons] at hlen
  cases c:G.no x m with
  | true =>
   by_cases d:G.ga x m≥0
   ·obtain⟨qs',gs',ls',pm,go⟩:=ih hm' qs (gs++[(G.ga x m,m)]) ls (by rw [List.length_append];exact(by lia:todo.length+qs.length+(gs.length+1)+ls.length < 1000))
    refine⟨qs',gs',ls',List.Perm.trans ?_ pm,fun n A f age σ B R H p l r lo g q P xs v3 v4 Q X hx S Z h=>?_⟩
    ·rw [sec_snoc]
     have:=(List.perm_middle (a:=m) (l₁:=todo++(qs++sec gs)) (l₂:=sec ls)).symm
     simp only [List.append_assoc,List.nil_append,List.cons_append] at this ⊢;exact this
    ·obtain⟨tl,t1,t2⟩:=Z.gd
     have hp:=S.sub _ _ Z.obj
     refine foI ?_
     refine pgame hp ?_
     refine mO S.st.game.1 rfl rfl ?_
     refine g_is_noisy S O hx hN m1 m2 ?_
     refine bT c ?_
     refine bF rfl ?_
     refine pgame hp ?_
     refine mO S.st.game.1 rfl rfl ?_
     refine g_gain S O hx hN m1 m2 ?_
     refine dT d ?_
     refine mL (S.sub _ _ t1) rfl ?_
     refine app2 S t1 (by rw [t2.len];lia) fun t rt S2=>?_
     have Z2:=Z.addG (ts:=0) t1 t2 rt (G.ga x m,m)
     exact fN (S2.sub _ _ Z2.left) (go n A f age σ B _ _ p l r lo g q P xs _ _ Q X hx S2 Z2 h)
   ·obtain⟨qs',gs',ls',pm,go⟩:=ih hm' qs gs (ls++[(G.ga x m,m)]) (by rw [List.length_append];exact(by lia:todo.length+qs.length+gs.length+(ls.length+1) < 1000))
    refine⟨qs',gs',ls',List.Perm.trans ?_ pm,fun n A f age σ B R H p l r lo g q P xs v3 v4 Q X hx S Z h=>?_⟩
    ·rw [sec_snoc]
     have:=(List.perm_middle (a:=m) (l₁:=todo++(qs++(sec gs++sec ls))) (l₂:=[])).symm
     simp only [List.append_assoc,List.nil_append,List.append_nil,List.cons_append] at this ⊢;exact this
    ·obtain⟨tl,t1,t2⟩:=Z.los
     have hp:=S.sub _ _ Z.obj
     refine foI ?_
     refine pgame hp ?_
     refine mO S.st.game.1 rfl rfl ?_
     refine g_is_noisy S O hx hN m1 m2 ?_
     refine bT c ?_
     refine bF rfl ?_
     refine pgame hp ?_
     refine mO S.st.game.1 rfl rfl ?_
     refine g_gain S O hx hN m1 m2 ?_
     refine dF d ?_
     refine plosing hp ?_
     refine mL (S.sub _ _ t1) rfl ?_
     refine app2 S t1 (by rw [t2.len];lia) fun t rt S2=>?_
     have Z2:=Z.addL (ts:=0) t1 t2 rt (G.ga x m,m)
     exact fN (S2.sub _ _ Z2.left) (go n A f age σ B _ _ p l r lo g q P xs _ _ Q X hx S2 Z2 h)
  | false =>
   obtain⟨qs',gs',ls',pm,go⟩:=ih hm' (qs++[m]) gs ls (by rw [List.length_append];exact(by lia:todo.length+(qs.length+1)+gs.length+ls.length < 1000))
   refine⟨qs',gs',ls',List.Perm.trans ?_ pm,fun n A f age σ B R H p l r lo g q P xs v3 v4 Q X hx S Z h=>?_⟩
   ·have:=(List.perm_middle (a:=m) (l₁:=todo++qs) (l₂:=sec gs++sec ls)).symm
    simp only [List.append_assoc,List.nil_append,List.cons_append] at this ⊢;exact this
   ·have Z2:=Z.addQ m
    have S2:=S.put (o:=.list (nats qs++[.int m])) (a:=q) (.inl (by rw [Z.qt];exact fun q=>nomatch q))
    refine foI ?_
    refine pgame (S.sub _ _ Z.obj) ?_
    refine mO S.st.game.1 rfl rfl ?_
    refine g_is_noisy S O hx hN m1 m2 ?_
    refine bF c ?_
    refine bT rfl ?_
    refine mL (S.sub _ _ Z.qt) rfl ?_
    refine lApp (S.sub _ _ Z.qt) (by rw [nats_len];exact Nat.lt_of_lt_of_le (by lia:qs.length < 1000) (by decide)) ?_
    exact fC (S2.sub _ _ Z2.left) (go n A f age σ B _ _ p l r lo g q P xs _ _ Q X hx S2 Z2 h)
end Bn
namespace Bn
open Bm
theorem x_fill_good (G:Gm) (O:GOk G) (x:Nat) (hN:x < G.kids.length) (P:Pk) (hs:P.stage=1) (hr:P.ready=[]) (hm:∀ m∈P.left,Lg G x m) (hsm:P.left.length+P.losing.length < 1000) :
  ∃ left' ready' losing',(pend P).Perm (pend { P with stage:=2,left:=left',ready:=ready',losing:=losing' }) ∧
  ∀ (n:Nat) (A:Ad) (f:Cf) (age:Int) (σ:Sg) (B R H:AHeap) (p l r lo:Nat) (Q X:EQ),σ.path.getLast? = some x→SR A f G age σ R H→PR A f p l r lo P B R →
   FillK A f G age σ B p r lo P { P with stage:=2,left:=left',ready:=ready',losing:=losing' } Q→FW theTab (n+2) false 454 [.ref p] H Q X:=by
 obtain⟨qs',gs',ls',pm,go⟩:=good_loop G O x hN P.left hm [] [] P.losing hsm
 refine⟨qs',gs',ls',?_,fun n A f age σ B R H p l r lo Q X hx S Z K=>?_⟩
 ·rw [pend_0 (by rw [hs];decide),pend_0 (show 2≤3 by decide),hr];exact pm
 obtain⟨k1,k2,k3,k4⟩:=Z.losing (by rw [hs];decide)
 refine fw_in rfl rfl ?_
 intro g hg q hq
 have rg:=S.none_R hg
 have S1:=S.put (o:=.list []) (.inr hg)
 have rq:=S1.none_R hq
 have S2:=S1.put (o:=.list []) (.inr hq)
 have bg:=sub_none Z.sub rg
 have bq:=sub_none (sub_put Z.sub bg) rq
 have gq:g≠q:=ne_nl rq upd_eq
 have Z2:GL A f p l r lo g q P (nats P.left) [] [] P.losing B (upd (upd R g (.list [])) q (.list [])) :=
  ⟨upd_some (upd_some Z.obj (ne_nl rg Z.obj)) (ne_nl rq (upd_some Z.obj (ne_nl rg Z.obj))),upd_some (upd_some Z.left (ne_nl rg Z.left)) (ne_nl rq (upd_some Z.left (ne_nl rg Z.left))),
   TupL.nil.put (none_tup rq) gq,upd_eq,(k1.put (none_tup rg) (k1.ne rg)).put (none_tup rq) ((k1.put (none_tup rg) (k1.ne rg)).ne rq),gq,(k1.ne rg).symm,((k1.put (o:=.list []) (none_tup rg) (k1.ne rg)).ne rq).symm,
   ne_nl rg Z.left,ne_nl rq (upd_some Z.left (ne_nl rg Z.left)),k3,Z.bp,bg,bq,Z.bl,k2,sub_put (sub_put Z.sub bg) bq⟩
 refine pleft (S2.sub _ _ Z2.obj) ?_
 refine vO (S2.sub _ _ Z2.left) ⟨rfl,?_⟩
 refine go n A f age σ B _ _ p l r lo g q P _ _ _ _ _ hx S2 Z2 fun H' R' v3 v4 S' Z'=>?_
 refine aS (S'.sub _ _ Z'.obj) rfl (by show 9 < 100;decide) ?_
 have S3:=S'.put (o:=.obj 464 (pFs A f q r lo P.tm P.ply P.stage)) (a:=p) (.inl (by rw [Z'.obj];exact fun q=>nomatch q))
 exact K _ _ q g S3 upd_eq (PR.end upd_eq rfl rfl (by rw [hs]) (upd_some Z'.qt (ne_ol Z'.obj Z'.qt)) (Z'.gd.obj Z'.obj) (fun zz=>⟨Z'.los.obj Z'.obj,Z'.blo,Z'.qlo,Z'.glo⟩) Z'.gq.symm Z'.bp Z'.bq Z'.bg (sub_put Z'.sub Z'.bp))
structure KL (A:Ad) (f:Cf) (p l r lo g k:Nat) (P:Pk) (ks:List AV) (left:List Nat) (gs:List (Int×Nat)) (B R:AHeap):Prop where
 obj:R p=some (.obj 464 (pFs A f l r lo P.tm P.ply P.stage))
 left:R l=some (.list (nats left))
 gd:TupL R g gs
 los:TupL R lo P.losing
 kt:R k=some (.tup ks)
 glo:g≠lo
 lg:l≠g
 llo:l≠lo
 bp:B p=none
 bg:B g=none
 bl:B l=none
 blo:B lo=none
 sub:∀ a o,B a=some o→R a=some o
theorem ne_tl {R:AHeap} {a b:Nat} {xs ys} (h:R a=some (.list xs)) (h2:R b=some (.tup ys)):b≠a:=fun n=>by rw [n,h] at h2;cases h2
theorem KL.move {A:Ad} {f:Cf} {p l r lo g k:Nat} {P:Pk} {ks:List AV} {left:List Nat} {gs:List (Int×Nat)} {B R:AHeap} (Z:KL A f p l r lo g k P ks left gs B R) {l1:List Nat} {m t:Nat} {tl:List Nat} (t1:R g=some (.list (refs tl))) (t2:Tups R tl gs) (rt:upd R l (.list (nats l1)) t=none) :
  KL A f p l r lo g k P ks l1 (gs++[(0,m)]) B (upd (upd (upd R l (.list (nats l1))) t (.tup [.int 0,.int m])) g (.list (refs (tl++[t])))):=by
 have g1:upd R l (.list (nats l1)) g=some (.list (refs tl)):=upd_some t1 Z.lg.symm
 have o1:upd R l (.list (nats l1)) p=some (.obj 464 (pFs A f l r lo P.tm P.ply P.stage)):=upd_some Z.obj (ne_ol Z.obj Z.left).symm
 have k1:upd R l (.list (nats l1)) k=some (.tup ks):=upd_some Z.kt (ne_tl Z.left Z.kt)
 have q1:Tups (upd R l (.list (nats l1))) tl gs:=t2.mono (tup_put (list_tup Z.left))
 exact⟨put2 rt o1 (ne_ol o1 g1).symm,put2 rt upd_eq Z.lg,TupL.snoc g1 q1 rt (0,m),(Z.los.put (list_tup Z.left) Z.llo.symm).put2 rt g1 Z.glo.symm,put2 rt k1 (ne_tl g1 k1),
  Z.glo,Z.lg,Z.llo,Z.bp,Z.bg,Z.bl,Z.blo,subO (sub_put Z.sub Z.bl) rt Z.bg⟩
noncomputable def KillR (todo:List Int) (left:List Nat) (gs:List (Int×Nat)) (left':List Nat) (gs':List (Int×Nat)):Prop :=
 ∀ (n:Nat) (A:Ad) (f:Cf) (G:Gm) (age:Int) (σ:Sg) (B R H:AHeap) (p l r lo g k:Nat) (P:Pk) (ks:List AV) (v2:AV) (Q:SQ) (X:SX),SR A f G age σ R H→KL A f p l r lo g k P ks left gs B R →
   (∀ H' R' v2,SR A f G age σ R' H'→KL A f p l r lo g k P ks left' gs' B R'→Q .next [.ref p,.ref g,v2] H') →
   forL (.tup k ks) 2 (fun ρ H K=>vSs theTab (FW theTab n) ir_Picker_fill_killers_loop0 false ρ H K X) (intsL todo) [.ref p,.ref g,v2] H Q
theorem kill_loop (todo:List Int):∀ (left:List Nat) (gs:List (Int×Nat)),todo.length+gs.length < 1000→∃ (left':List Nat) (gs':List (Int×Nat)),(left++sec gs).Perm (left'++sec gs')∧KillR todo left gs left' gs':=by
 induction todo with
 | nil=>exact fun left gs hl=>⟨left,gs,List.Perm.refl _,fun n A f G age σ B R H p l r lo g k P ks v2 Q X S Z h=>h H R v2 S Z⟩
 | cons i todo ih =>
  intro left gs hl
  rw [List.length_cons] at hl
  cases c:(nats left).any (isThe i) with
  | true =>
   obtain⟨m,l1,i1,i2,i3⟩:=rem_nats c
   obtain⟨left',gs',pm,go⟩:=ih l1 (gs++[(0,m)]) (by rw [List.length_append];exact(by lia:todo.length+(gs.length+1) < 1000))
   refine⟨left',gs',List.Perm.trans ?_ pm,fun n A f G age σ B R H p l r lo g k P ks v2 Q X S Z h=>?_⟩
   ·rw [sec_snoc,← List.append_assoc]
    exact(i3.append_right _).trans (List.perm_append_comm (l₁:=[m]))
   ·obtain⟨tl,t1,t2⟩:=Z.gd
    have hl1:=S.sub _ _ Z.left
    have S1:=S.put (o:=.list (nats l1)) (a:=l) (.inl (by rw [Z.left];exact fun q=>nomatch q))
    have g1:upd R l (.list (nats l1)) g=some (.list (refs tl)):=upd_some t1 Z.lg.symm
    subst i1
    refine foI ?_
    refine pleft (S.sub _ _ Z.obj) ?_
    refine oL hl1 ⟨nats_all,?_⟩
    refine bT c ?_
    refine pleft (S.sub _ _ Z.obj) ?_
    refine mL hl1 rfl ?_
    refine lRem hl1 nats_all c ?_
    rw [i2]
    refine mL (S1.sub _ _ g1) rfl ?_
    refine app2 S1 g1 (by rw [t2.len];lia) fun t rt S3=>?_
    have Z3:=Z.move (m:=m) t1 t2 rt
    exact fN (S3.sub _ _ Z3.kt) (go n A f G age σ B _ _ p l r lo g k P ks _ Q X S3 Z3 h)
  | false =>
   obtain⟨left',gs',pm,go⟩:=ih left gs (by lia)
   refine⟨left',gs',pm,fun n A f G age σ B R H p l r lo g k P ks v2 Q X S Z h=>?_⟩
   refine foI ?_
   refine pleft (S.sub _ _ Z.obj) ?_
   refine oL (S.sub _ _ Z.left) ⟨nats_all,?_⟩
   refine bF c ?_
   exact fN (S.sub _ _ Z.kt) (go n A f G age σ B R H p l r lo g k P ks _ Q X S Z h)
theorem x_fill_killers (kh:Bool) (sf ss:List Int) (h3:kh=true→sf.length=3∧ss.length=3) (P:Pk) (hs:P.stage=2) (hr:P.ready=[]) :
  ∃ left' ready',(pend P).Perm (pend { P with stage:=3,left:=left',ready:=ready' }) ∧
  ∀ (n:Nat) (A:Ad) (f:Cf) (G:Gm) (age:Int) (σ:Sg) (B R H:AHeap) (p l r lo:Nat) (Q X:EQ),f.kh=kh→σ.first=sf→σ.second=ss→SR A f G age σ R H→PR A f p l r lo P B R →
   FillK A f G age σ B p r lo P { P with stage:=3,left:=left',ready:=ready' } Q→FW theTab (n+3) false 461 [.ref p] H Q X:=by
 obtain⟨left',gs',pm,go⟩:=kill_loop [(kpr kh sf ss P.ply).1,(kpr kh sf ss P.ply).2] P.left [] (show 2+0 < 1000 by decide)
 refine⟨left',gs',?_,fun n A f G age σ B R H p l r lo Q X e1 e2 e3 S Z K=>?_⟩
 ·rw [pend_0 (by rw [hs];decide),pend_0 (show 3≤3 by decide),hr,← List.append_assoc,← List.append_assoc]
  exact List.Perm.append_right _ pm
 subst e1;subst e2;subst e3
 obtain⟨k1,k2,k3,k4⟩:=Z.losing (by rw [hs];decide)
 refine fw_in rfl rfl ?_
 intro g hg
 have rg:=S.none_R hg
 have S1:=S.put (o:=.list []) (.inr hg)
 have bg:=sub_none Z.sub rg
 have o1:upd R g (.list []) p=some (.obj 464 (pFs A f l r lo P.tm P.ply P.stage)):=upd_some Z.obj (ne_nl rg Z.obj)
 refine pkil (S1.sub _ _ o1) ?_
 refine pply (S1.sub _ _ o1) ?_
 refine x_killer_pair S1 h3 fun k hk=>?_
 have rk:=S1.none_R hk
 have S2:=S1.put (o:=.tup [.int (kpr f.kh σ.first σ.second P.ply).1,.int (kpr f.kh σ.first σ.second P.ply).2]) (.inr hk)
 have bk:=sub_none (sub_put Z.sub bg) rk
 have l1:upd R g (.list []) l=some (.list (nats P.left)):=upd_some Z.left (ne_nl rg Z.left)
 have lo1:=k1.put (o:=.list []) (none_tup rg) (k1.ne rg)
 have gk:g≠k:=ne_nl rk upd_eq
 refine vOT upd_eq ⟨rfl,?_⟩
 refine go (n+2) A f G age σ B _ _ p l r lo g k P _ _ _ _ S2 ⟨upd_some o1 (ne_nl rk o1),upd_some l1 (ne_nl rk l1),TupL.nil.put (none_tup rk) gk,lo1.put (none_tup rk) (lo1.ne rk),upd_eq,(k1.ne rg).symm,ne_nl rg Z.left,k3,Z.bp,bg,Z.bl,k2,sub_put (sub_put Z.sub bg) bk⟩ fun H' R' v2 S' Z'=>?_
 exact K _ _ l g S' Z'.obj (PR.end Z'.obj rfl rfl (by rw [hs]) Z'.left Z'.gd (fun zz=>⟨Z'.los,Z'.blo,Z'.llo,Z'.glo⟩) Z'.lg Z'.bp Z'.bl Z'.bg Z'.sub)
end Bn
namespace Bn
open Bm
theorem quiet_comp (n:Nat) (A:Ad) (f:Cf) (G:Gm) (age:Int) (σ:Sg) (B:AHeap) (p l r lo:Nat) (P:Pk) (s:Nat) (hs:s≤1) (xs:List AV) (g:Nat→Int) (hg:∀ m,g m=if f.kh=true then sget σ.scores ((s:Int)*65536+(m:Int)) else 0) (v2:AV) (K:List AV→AHeap→Prop) (todo:List Nat) :
  ∀ (R H:AHeap) (ts:List Nat) (acc:List (Int×Nat)),SR A f G age σ R H→R p=some (.obj 464 (pFs A f l r lo P.tm P.ply P.stage))→R l=some (.list xs)→Tups R ts acc→(P.stage≤4→TupL R lo P.losing)→(∀ a o,B a=some o→R a=some o) →
   (∀ H' R' ts',SR A f G age σ R' H'→R' p=some (.obj 464 (pFs A f l r lo P.tm P.ply P.stage))→R' l=some (.list xs)→Tups R' ts' (acc++todo.map fun m=>(g m,m))→(P.stage≤4→TupL R' lo P.losing)→(∀ a o,B a=some o→R' a=some o)→K (refs ts') H') →
   compL (.lst l xs) (fun v H K=>vE theTab false (FW theTab (n+2) false) (.tup (.cons (.call 414 (.cons (.attr (.loc 1) "history") (.cons (.loc 3) (.cons (.loc 0) .nil)))) (.cons (.loc 0) .nil))) [v,.ref p,v2,.int s] H K (fun zz zz=>False)) (nats todo) (refs ts) H K:=by
 induction todo with
 | nil =>
  intro R H ts acc S hp hl ht hlo hB h
  rw [List.map_nil,List.append_nil] at h
  exact h H R ts S hp hl ht hlo hB
 | cons m todo ih =>
  intro R H ts acc S hp hl ht hlo hB h
  rw [List.map_cons,List.append_cons] at h
  refine phis (S.sub _ _ hp) ?_
  refine x_past_score S hs ?_
  rw [← hg m]
  intro t h0
  have rt:=S.none_R h0
  have S1:=S.put (o:=.tup [.int (g m),.int m]) (.inr h0)
  have l1:=upd_some (o:=.tup [.int (g m),.int m]) hl (ne_nl rt hl)
  refine⟨S1.sub _ _ l1,?_⟩
  rw [refs_snoc]
  exact ih _ _ (ts++[t]) (acc++[(g m,m)]) S1 (upd_some hp (ne_nl rt hp)) l1 (Tups.snoc (ht.mono (tup_put (none_tup rt))) upd_eq) (fun e=>(hlo e).put (none_tup rt) ((hlo e).ne rt)) (sub_put hB (sub_none hB rt)) h
theorem pend_4 {P:Pk} (h:P.stage=4):pend P=P.ready.map (·.2)++P.losing.map (·.2):=by
 unfold pend;rw [if_neg (by rw [h];decide),if_pos (by rw [h];decide)];rfl
theorem pend_5 {P:Pk} (h:P.stage=5):pend P=P.ready.map (·.2):=by
 unfold pend;rw [if_neg (by rw [h];decide),if_neg (by rw [h];decide)];exact List.append_nil _
theorem pend_len {P P':Pk} (hs:P.stage≤3) (hs':P'.stage≤3) (hr:P.ready=[]) (pm:(pend P).Perm (pend P')) (h:P.left.length+P.losing.length < 1000):P'.left.length+P'.losing.length < 1000:=by
 have:=pm.length_eq
 rw [pend_0 hs,pend_0 hs',hr] at this
 simp only [List.length_append,List.length_map,List.map_nil,List.length_nil] at this
 lia
noncomputable def FillR (G:Gm) (f:Cf) (σ:Sg) (P P':Pk):Prop :=
 ∀ (n:Nat) (A:Ad) (most age:Int) (B R H:AHeap) (p l r lo:Nat) (Q X:EQ),SR A { f with most:=most } G age σ R H→PR A { f with most:=most } p l r lo P B R →
   FillK A { f with most:=most } G age σ B p r lo P P' Q→FW theTab (n+4) false 440 [.ref p,.int P.stage] H Q X
theorem x_fill (G:Gm) (O:GOk G) (f:Cf) (σ:Sg) (x:Nat) (hx:σ.path.getLast? = some x) (hN:x < G.kids.length) (h3:f.kh=true→σ.first.length=3∧σ.second.length=3) (P:Pk) (hs:P.stage≤4) (hr:P.ready=[]) (hm:∀ m∈pend P,Lg G x m) (hsm:P.left.length+P.losing.length < 1000) :
  ∃ left' ready' losing',(pend P).Perm (pend { P with stage:=P.stage+1,left:=left',ready:=ready',losing:=losing' })∧left'.length+losing'.length < 1000 ∧
   FillR G f σ P { P with stage:=P.stage+1,left:=left',ready:=ready',losing:=losing' }:=by
 have hcase:P.stage=0∨P.stage=1∨P.stage=2∨P.stage=3∨P.stage=4:=by lia
 rcases hcase with h | h | h | h | h <;> unfold FillR <;> rw [h]
 ·obtain⟨left',ready',pm,go⟩:=x_fill_table P h hr (Nat.lt_of_le_of_lt (Nat.le_add_right ..) hsm)
  refine⟨left',ready',P.losing,pm,pend_len (by rw [h];decide) (show 1≤3 by decide) hr pm hsm,fun n A most age B R H p l r lo Q X S Z K=>?_⟩
  refine fw_in rfl rfl ?_
  refine dT rfl ?_
  refine mO (S.sub _ _ Z.obj) rfl rfl ?_
  exact go (n+2) A { f with most:=most } G age σ B R H p l r lo _ _ S Z K
 ·obtain⟨left',ready',losing',pm,go⟩:=x_fill_good G O x hN P h hr (fun m hm'=>hm m (by rw [pend_0 (by rw [h];decide)];exact List.mem_append_left _ hm')) hsm
  refine⟨left',ready',losing',pm,pend_len (by rw [h];decide) (show 2≤3 by decide) hr pm hsm,fun n A most age B R H p l r lo Q X S Z K=>?_⟩
  refine fw_in rfl rfl ?_
  refine dF (by decide) ?_
  refine dT rfl ?_
  refine mO (S.sub _ _ Z.obj) rfl rfl ?_
  exact go (n+1) A { f with most:=most } age σ B R H p l r lo _ _ hx S Z K
 ·obtain⟨left',ready',pm,go⟩:=x_fill_killers f.kh σ.first σ.second h3 P h hr
  refine⟨left',ready',P.losing,pm,pend_len (by rw [h];decide) (show 3≤3 by decide) hr pm hsm,fun n A most age B R H p l r lo Q X S Z K=>?_⟩
  refine fw_in rfl rfl ?_
  refine dF (by decide) ?_
  refine dF (by decide) ?_
  refine dT rfl ?_
  refine mO (S.sub _ _ Z.obj) rfl rfl ?_
  exact go n A { f with most:=most } G age σ B R H p l r lo _ _ rfl rfl rfl S Z K
 ·have hs1:(σ.path.length - 1)%2≤1:=Nat.le_of_lt_succ (Nat.mod_lt _ (by decide))
  refine⟨P.left,P.left.map fun(m:Nat)=>(if f.kh=true then sget σ.scores ((((σ.path.length - 1)%2:Nat):Int)*65536+(m:Int)) else 0,m),P.losing,?_,hsm,fun n A most age B R H p l r lo Q X S Z K=>?_⟩
  ·rw [pend_0 (by rw [h];decide),pend_4 rfl,hr]
   show(P.left++P.losing.map _).Perm ((P.left.map _).map _++_)
   rw [List.map_map]
   have e:∀ g:Nat→Int,List.map ((fun x:Int×Nat=>x.2) ∘ fun m=>(g m,m)) P.left=P.left:=fun g=>List.map_id _
   rw [e]
  obtain⟨k1,k2,k3,k4⟩:=Z.losing (by rw [h];decide)
  refine fw_in rfl rfl ?_
  refine dF (by decide) ?_
  refine dF (by decide) ?_
  refine dF (by decide) ?_
  refine dT rfl ?_
  refine pgame (S.sub _ _ Z.obj) ?_
  refine mO S.st.game.1 rfl rfl ?_
  refine g_side S (pos_of hx) ?_
  refine pleft (S.sub _ _ Z.obj) ?_
  refine vO (S.sub _ _ Z.left) ⟨rfl,?_⟩
  refine quiet_comp (n+1) A { f with most:=most } G age σ B p l r lo P _ hs1 (nats P.left) _ (fun m=>rfl) _ _ P.left R H [] [] S Z.obj Z.left trivial (fun zz=>k1) Z.sub ?_
  intro H' R' ts' S' Z1 Z2 Z3 Z4 Z5 a ha
  have ra:=S'.none_R ha
  have u1:=Z4 (by rw [h];decide)
  have u2:=upd_some (o:=AO.list (refs ts')) Z1 (ne_nl ra Z1)
  exact K _ _ l a (S'.put (.inr ha)) u2 (PR.end u2 rfl rfl (by rw [h]) (upd_some Z2 (ne_nl ra Z2)) ⟨ts',upd_eq,Z3.mono (tup_put (none_tup ra))⟩
   (fun zz=>⟨u1.put (none_tup ra) (u1.ne ra),k2,k3,(u1.ne ra).symm⟩) (ne_nl ra Z2) Z.bp Z.bl (sub_none Z5 ra) (sub_put Z5 (sub_none Z5 ra)))
 ·refine⟨P.left,P.losing,P.losing,?_,hsm,fun n A most age B R H p l r lo Q X S Z K=>?_⟩
  ·rw [pend_4 h,pend_5 rfl,hr];exact .refl _
  obtain⟨k1,k2,k3,k4⟩:=Z.losing (by rw [h];decide)
  refine fw_in rfl rfl ?_
  refine dF (by decide) ?_
  refine dF (by decide) ?_
  refine dF (by decide) ?_
  refine dF (by decide) ?_
  refine plosing (S.sub _ _ Z.obj) ?_
  exact K H R l lo S Z.obj (PR.end Z.obj rfl rfl (by rw [h]) Z.left k1 (fun e=>absurd e (show ¬ 5≤4 by decide)) k3 Z.bp Z.bl k2 Z.sub)
theorem refs_erase:∀ {ts:List Nat} {k:Nat},(refs ts).eraseIdx k=refs (ts.eraseIdx k)
 | [],k=>rfl
 | a::ts,0=>rfl
 | a::ts,k+1=>congrArg (AV.ref a::·) (@refs_erase ts k)
noncomputable def BestR (xs:List (Int×Nat)) (s w b k:Nat):Prop:=∀ (n:Nat) (H:AHeap) (r:Nat) (ts:List Nat) (v2:AV) (Q:SQ) (X:SX),H r=some (.list (refs ts))→Tups H ts xs→(∀ v,Q .next [.ref r,.int k,v] H) →
 forL .rng 2 (fun ρ H K=>vSs theTab (FW theTab n) ir_take_best_loop0 false ρ H K X) (nats (List.range' s w)) [.ref r,.int b,v2] H Q
theorem rT {H:AHeap} {r:Nat} {ts:List Nat} {xs:List (Int×Nat)} (h1:H r=some (.list (refs ts))) (h2:Tups H ts xs) {k:Nat} {x:Int×Nat} (hx:xs[k]? = some x) {K:AV→Prop} (q:K (.int x.1)):vIdx (.ref r) (.int k) H fun v=>vIdx v (.int 0) H K:=by
 obtain⟨t,t1,t2⟩:=h2.at hx
 exact iL h1 (place_nat (by rw [refs_len];exact len_of t1) rfl) (refs_get t1) (iT (j:=0) t2 rfl rfl q)
theorem best_loop (xs:List (Int×Nat)) (w:Nat):∀ (s b:Nat),s+w=xs.length→b < xs.length→∃ k,k < xs.length∧BestR xs s w b k:=by
 induction w with
 | zero=>exact fun s b h hb=>⟨b,hb,fun n H r ts v2 Q X h1 h2 hq=>hq v2⟩
 | succ w ih =>
  intro s b h hb
  have hsl:s < xs.length:=by lia
  obtain⟨x,hx⟩:=getSome hsl
  obtain⟨y,hy⟩:=getSome hb
  by_cases c:x.1 > y.1
  ·obtain⟨k,k1,go⟩:=ih (s+1) s (by rw [Nat.add_right_comm];exact h) hsl
   refine⟨k,k1,fun n H r ts v2 Q X h1 h2 hq=>?_⟩
   refine foI ?_
   refine rT h1 h2 hx ?_
   refine rT h1 h2 hy ?_
   refine dT c ?_
   exact fN trivial (go n H r ts _ Q X h1 h2 hq)
  ·obtain⟨k,k1,go⟩:=ih (s+1) b (by rw [Nat.add_right_comm];exact h) hb
   refine⟨k,k1,fun n H r ts v2 Q X h1 h2 hq=>?_⟩
   refine foI ?_
   refine rT h1 h2 hx ?_
   refine rT h1 h2 hy ?_
   refine dF c ?_
   exact fN trivial (go n H r ts _ Q X h1 h2 hq)
theorem x_take_best (xs:List (Int×Nat)) (h0:xs≠[]) (h1:xs.length < 1000):∃ k x,xs[k]? = some x ∧
  ∀ (n:Nat) (H:AHeap) (r:Nat) (ts:List Nat) (Q X:EQ),H r=some (.list (refs ts))→Tups H ts xs→Q (.int x.2) (upd H r (.list (refs (ts.eraseIdx k))))→FW theTab (n+1) false 475 [.ref r] H Q X:=by
 have hl:0 < xs.length:=List.length_pos_iff.2 h0
 have e1:1+(xs.length - 1)=xs.length:=Nat.add_sub_cancel' hl
 obtain⟨k,k1,go⟩:=best_loop xs (xs.length - 1) 1 0 e1 hl
 obtain⟨x,hx⟩:=getSome k1
 refine⟨k,x,hx,fun n H r ts Q X hr ht hq=>?_⟩
 have hlen:(refs ts).length=xs.length:=by rw [refs_len,ht.len]
 obtain⟨t,t1,t2⟩:=ht.at hx
 have tr:=ne_tl hr t2
 rw [← refs_erase] at hq
 refine fw_in rfl rfl ?_
 refine oL hr ?_
 refine rN (s:=1) (w:=xs.length - 1) rfl (by rw [hlen,← Int.natCast_add,e1]) (by decide) (Nat.lt_of_le_of_lt (Nat.sub_le ..) h1) ⟨rfl,?_⟩
 refine go n H r ts _ _ _ hr ht fun v=>?_
 refine mL hr rfl ?_
 refine lPopi hr (place_nat (by rw [hlen];exact k1) rfl) ?_
 rw [refs_get t1]
 exact iT (j:=1) (upd_some t2 tr) rfl rfl hq
theorem pend_nil {P:Pk} (h:P.stage=5) (hr:P.ready=[]):pend P=[]:=by rw [pend_5 h,hr];rfl
noncomputable def PickR (G:Gm) (f:Cf) (σ:Sg) (k:Nat) (P P':Pk):Prop :=
  ∀ (n:Nat) (A:Ad) (most age:Int) (B R H:AHeap) (p l r lo:Nat) (Q:SQ) (X:SX),SR A { f with most:=most } G age σ R H→PR A { f with most:=most } p l r lo P B R →
   (P'.ready=[]→∀ H' R' l' r',SR A { f with most:=most } G age σ R' H'→PR A { f with most:=most } p l' r' lo P' B R'→Q (.ret (.int 0)) [.ref p] H') →
   (P'.ready≠[]→∀ H' R' l' r',SR A { f with most:=most } G age σ R' H'→PR A { f with most:=most } p l' r' lo P' B R'→Q .next [.ref p] H') →
   whileL (fun ρ H K=>vE theTab false (FW theTab (n+4) false) (.not (.attr (.loc 0) "ready")) ρ H (fun v H=>truthy v H fun r=>K r H) (fun n H=>X n ρ H)) (fun ρ H K=>vSs theTab (FW theTab (n+4)) ir_Picker_next_loop0 false ρ H K X) (k+1) [.ref p] H Q
theorem upd_upd {H:AHeap} {p:Nat} {o o':AO}:upd (upd H p o) p o'=upd H p o':=by
 funext b;unfold upd;split <;> rfl
theorem TupL.mt {R:AHeap} {r:Nat} {xs:List (Int×Nat)} (T:TupL R r xs) (c:xs=[]):R r=some (.list []):=by
 obtain⟨ts,t1,t2⟩:=T
 cases ts with
 | nil=>exact t1
 | cons=>have:=t2.len;rw [c] at this;cases this
theorem pick_loop (G:Gm) (O:GOk G) (f:Cf) (σ:Sg) (x:Nat) (hx:σ.path.getLast? = some x) (hN:x < G.kids.length) (h3:f.kh=true→σ.first.length=3∧σ.second.length=3) (k:Nat) :
  ∀ (P:Pk),P.stage+k=5→(∀ m∈pend P,Lg G x m)→P.left.length+P.losing.length < 1000 →
  ∃ P':Pk,P'.stage≤5∧(pend P).Perm (pend P')∧P'.left.length+P'.losing.length < 1000∧(P'.ready=[]→P'.stage=5)∧PickR G f σ k P P':=by
 have full:∀ (k:Nat) (P:Pk),P.ready≠[]→PickR G f σ k P P:=fun k P c n A most age B R H p l r lo Q X S Z h1 h2=>by
  obtain⟨ts,t1,t2⟩:=Z.ready
  refine whI ?_
  refine pready (S.sub _ _ Z.obj) ?_
  refine tL (S.sub _ _ t1) ?_
  refine bF ?_ ?_
  ·cases ts with
   | nil=>exact absurd (List.length_eq_zero_iff.1 t2.len.symm) c
   | cons=>rfl
  ·exact h2 c H R l r S Z
 induction k with
 | zero =>
  intro P hk hm hsm
  have hk:P.stage=5:=hk
  refine⟨P,Nat.le_of_eq hk,.refl _,hsm,fun zz=>hk,?_⟩
  by_cases c:P.ready=[]
  ·intro n A most age B R H p l r lo Q X S Z h1 h2
   refine whI ?_
   refine pready (S.sub _ _ Z.obj) ?_
   refine tL (S.sub _ _ (Z.ready.mt c)) ?_
   refine bT rfl ?_
   refine pstage (S.sub _ _ Z.obj) ?_
   refine dT (by rw [hk];rfl) ?_
   exact aR (h1 c H R l r S Z)
  ·exact full 0 P c
 | succ k ih =>
  intro P hk hm hsm
  by_cases c:P.ready=[]
  ·have h4:P.stage≤4:=by lia
   obtain⟨left',ready',losing',pm,hsm',go⟩:=x_fill G O f σ x hx hN h3 P h4 c hm hsm
   obtain⟨P',a3,a4,a5,a6,go2⟩:=ih { P with stage:=P.stage+1,left:=left',ready:=ready',losing:=losing' } (by show P.stage+1+k=5;lia) (fun m hm'=>hm m (pm.mem_iff.2 hm')) hsm'
   refine⟨P',a3,pm.trans a4,a5,a6,fun n A most age B R H p l r lo Q X S Z h1 h2=>?_⟩
   refine whI ?_
   refine pready (S.sub _ _ Z.obj) ?_
   refine tL (S.sub _ _ (Z.ready.mt c)) ?_
   refine bT rfl ?_
   refine pstage (S.sub _ _ Z.obj) ?_
   refine dF (by lia) ?_
   refine mO (S.sub _ _ Z.obj) rfl rfl ?_
   refine pstage (S.sub _ _ Z.obj) ?_
   refine go n A most age B R H p l r lo _ _ S Z fun H' R' l' r' S' o1 Z'=>?_
   have hl:∀ {l r lo:Nat} {st:Nat},(pFs A { f with most:=most } l r lo P.tm P.ply st).length < 100:=by intros;show 9 < 100;decide
   have S2:=S'.put (o:=.obj 464 (pFs A { f with most:=most } l' r' lo P.tm P.ply (P.stage+1))) (a:=p) (.inl (by rw [o1];exact fun q=>nomatch q))
   refine aS (S'.sub _ _ o1) rfl hl ?_
   refine pstage (l:=l') (r:=r') upd_eq ?_
   refine bAdd ?_
   refine aS (fs:=pFs A { f with most:=most } l' r' lo P.tm P.ply P.stage) upd_eq rfl hl ?_
   rw [upd_upd]
   refine aN ?_
   exact go2 n A most age B _ _ p l' r' lo Q X S2 Z' h1 h2
  ·exact⟨P,by lia,.refl _,hsm,fun z=>absurd z c,full _ P c⟩
theorem perm_erase {xs:List (Int×Nat)}:∀ {k:Nat} {x:Int×Nat},xs[k]? = some x→(xs.map (·.2)).Perm (x.2::(xs.eraseIdx k).map (·.2)):=by
 induction xs with
 | nil=>intro k x h;cases h
 | cons y xs ih =>
  intro k x h
  cases k with
  | zero=>cases h;exact List.Perm.refl _
  | succ k =>
   have:=ih (k:=k) (x:=x) h
   exact(List.Perm.cons y.2 this).trans (List.Perm.swap x.2 y.2 _)
theorem x_next (G:Gm) (O:GOk G) (f:Cf) (σ:Sg) (x:Nat) (hx:σ.path.getLast? = some x) (hN:x < G.kids.length) (h3:f.kh=true→σ.first.length=3∧σ.second.length=3) (P:Pk) (hs:P.stage≤5) (hm:∀ m∈pend P,Lg G x m) (hsm:P.left.length+P.losing.length < 1000) (hsz:(pend P).length < 1000) :
  ∃ (m:Nat) (P':Pk),P'.stage≤5∧P'.left.length+P'.losing.length < 1000∧(m=0→pend P=[])∧(m≠0→(pend P).Perm (m::pend P')) ∧
  ∀ (n:Nat) (A:Ad) (most age:Int) (B R H:AHeap) (p l r lo:Nat) (Q X:EQ),SR A { f with most:=most } G age σ R H→PR A { f with most:=most } p l r lo P B R →
   (∀ H' R' l' r',SR A { f with most:=most } G age σ R' H'→(m≠0→PR A { f with most:=most } p l' r' lo P' B R')→(∀ a o,B a=some o→R' a=some o)→Q (.int m) H') →
   FW theTab (n+5) false 435 [.ref p] H Q X:=by
 obtain⟨P1,a3,a4,a5,a6,go⟩:=pick_loop G O f σ x hx hN h3 (5 - P.stage) P (Nat.add_sub_cancel' hs) hm hsm
 by_cases c:P1.ready=[]
 ·refine⟨0,P1,a3,a5,fun zz=>List.length_eq_zero_iff.1 (by rw [a4.length_eq,pend_nil (a6 c) c];rfl),fun z=>absurd rfl z,fun n A most age B R H p l r lo Q X S Z h=>?_⟩
  refine fw_in rfl rfl ?_
  refine⟨5 - P.stage+1,go n A most age B R H p l r lo _ _ S Z (fun zz H' R' l' r' S' Z'=>?_) fun z=>absurd c z⟩
  exact h H' R' l' r' S' (fun z=>absurd rfl z) Z'.sub
 ·have hp:P1.ready.length < 1000:=by
   rw [a4.length_eq] at hsz;unfold pend at hsz
   simp only [List.length_append,List.length_map] at hsz;lia
  obtain⟨k,y,hy,go2⟩:=x_take_best P1.ready c hp
  have pm:(pend P1).Perm (y.2::pend { P1 with ready:=P1.ready.eraseIdx k }):=by
   unfold pend
   exact(List.Perm.append_left _ ((perm_erase hy).append_right _)).trans List.perm_middle
  have hy1:1≤y.2:=(hm y.2 (a4.mem_iff.2 (pm.mem_iff.2 (.head _)))).1
  refine⟨y.2,{ P1 with ready:=P1.ready.eraseIdx k },a3,a5,fun z=>absurd hy1 (by rw [z];decide),fun zz=>a4.trans pm,fun n A most age B R H p l r lo Q X S Z h=>?_⟩
  refine fw_in rfl rfl ?_
  refine⟨5 - P.stage+1,go n A most age B R H p l r lo _ _ S Z (fun z=>absurd z c) fun zz H' R' l' r' S' Z'=>?_⟩
  obtain⟨ts,t1,t2⟩:=Z'.ready
  have S2:=S'.put (o:=.list (refs (ts.eraseIdx k))) (a:=r') (.inl (by rw [t1];exact fun q=>nomatch q))
  have nr:=ne_ol Z'.obj t1
  have Z2:PR A { f with most:=most } p l' r' lo { P1 with ready:=P1.ready.eraseIdx k } B (upd R' r' (.list (refs (ts.eraseIdx k)))):=by
   refine⟨upd_some Z'.obj nr.symm,upd_some Z'.left Z'.lr,⟨_,upd_eq,(t2.erase k).mono (tup_put (list_tup t1))⟩,fun e=>?_,Z'.lr,Z'.bp,Z'.bl,Z'.br,sub_put Z'.sub Z'.br⟩
   obtain⟨b1,b2,b3,b4⟩:=Z'.losing e
   exact⟨b1.put (list_tup t1) b4.symm,b2,b3,b4⟩
  refine pready (S'.sub _ _ Z'.obj) ?_
  refine go2 _ H' r' ts _ _ (S'.sub _ _ t1) (t2.mono fun t q e=>S'.sub _ _ e) ?_
  exact h _ _ l' r' S2 (fun zz=>Z2) Z2.sub
end Bn
namespace Bn
open Bm
theorem sLoc {n:Nat} {hd:Bool} {ρ:List AV} {H:AHeap} {Q:SQ} {X:SX} {a i:Nat} {nm:String} {v:AV} {r:ISs} (h0:lget ρ 0=.ref a) (hi:lget ρ i=v) (o:okv v) (k:vSetA theTab (.ref a) nm v H fun H=>vSs theTab (FW theTab n) r hd ρ H Q X) :
  vSs theTab (FW theTab n) (.cons (.setA (.loc 0) nm (.loc i)) r) hd ρ H Q X:=by
 have:defd (lget ρ i) fun v=>defd (lget ρ 0) fun x=>vSetA theTab x nm v H fun H=>vSs theTab (FW theTab n) r hd ρ H Q X:=by
  rw [hi,h0];exact defd_iff.2 ⟨fun z=>by rw [z] at o;exact o,k⟩
 exact this
section
variable {A:Ad} {f:Cf} {G:Gm} {age:Int} {σ:Sg} {R H:AHeap}
theorem psU {C a:Nat} {fs:List (String×AV)} {n:String} {v:AV} {Q:AHeap→Prop} {H:AHeap} (hc:theTab.att C n=true) (hl:fs.length < 100) (k:Q (upd H a (.obj C (fset fs n v)))):vSetA theTab (.ref a) n v (upd H a (.obj C fs)) Q :=
 aS upd_eq hc hl (by rw [upd_upd];exact k)
theorem psW {C a b:Nat} {o:AO} {fs:List (String×AV)} {n:String} {v:AV} {Q:AHeap→Prop} {H:AHeap} (hb:a≠b) (hc:theTab.att C n=true) (hl:fs.length < 100) (k:Q (upd (upd (upd H a (.obj C fs)) b o) a (.obj C (fset fs n v)))):vSetA theTab (.ref a) n v (upd (upd H a (.obj C fs)) b o) Q :=
 aS (upd_some upd_eq hb) hc hl k
theorem x_picker_init (S:SR A f G age σ R H) {a ml:Nat} (ha:H a=none) {mv:List Nat} (hm:H ml=some (.list (nats mv))) (tm:Int) (ply:Nat) {n:Nat} {Q X:EQ}
  (h:∀ H' R' l r lo,SR A f G age σ R' H'→PR A f a l r lo ⟨tm,ply,0,mv,[],[]⟩ R R'→Q .none H') :
  FW theTab (n+1) false 428 [.ref a,.ref A.g,.ref ml,.int tm,kilV A f,hisV A f,.int ply] (upd H a (.obj 464 [])) Q X:=by
 have m1:∀ o,upd H a o ml=some (.list (nats mv)):=fun o=>upd_some hm (ne_nl ha hm)
 have ra:=S.none_R ha
 refine fw_in rfl rfl ?_
 refine psU rfl (by decide) ?_
 refine⟨rfl,oL (m1 _) fun l hl=>?_⟩
 have S1:=S.put (o:=.obj 464 [("game",.ref A.g)]) (.inr ha)
 have rl:=S1.none_R hl
 have S2:=S1.put (o:=.list (nats mv)) (.inr hl)
 have la:l≠a:=fun e=>by rw [e,upd_eq] at hl;cases hl
 refine psW la.symm rfl (by show 1 < 100;decide) ?_
 refine psU rfl (by show 2 < 100;decide) ?_
 refine sLoc rfl rfl okv_ite ?_
 refine psU rfl (by show 3 < 100;decide) ?_
 refine sLoc rfl rfl okv_ite ?_
 refine psU rfl (by show 4 < 100;decide) ?_
 refine psU rfl (by show 5 < 100;decide) ?_
 refine psU rfl (by show 6 < 100;decide) ?_
 have S3:=S2.put (o:=.obj 464 [("game",.ref A.g),("left",.ref l),("table_move",.int tm),("killers",kilV A f),("history",hisV A f),("ply",.int ply),("stage",.int 0)]) (a:=a) (.inl (by rw [upd_ne la.symm,upd_eq];exact fun q=>nomatch q))
 intro r hr
 have rr:=S3.none_R hr
 have S4:=S3.put (o:=.list []) (.inr hr)
 have ar:a≠r:=fun e=>by rw [← e,upd_eq] at hr;cases hr
 have p3:∀ (H:AHeap) fs,upd (upd H a (.obj 464 fs)) r (.list []) a=some (.obj 464 fs):=fun H fs=>upd_some upd_eq ar
 refine psW ar rfl (by show 7 < 100;decide) ?_
 have S5:=S4.put (o:=.obj 464 [("game",.ref A.g),("left",.ref l),("table_move",.int tm),("killers",kilV A f),("history",hisV A f),("ply",.int ply),("stage",.int 0),("ready",.ref r)]) (a:=a) (.inl (by rw [p3];exact fun q=>nomatch q))
 intro lo hlo
 have rlo:=S5.none_R hlo
 have S6:=S5.put (o:=.list []) (.inr hlo)
 have alo:a≠lo:=fun e=>by rw [← e,upd_eq] at hlo;cases hlo
 have p4:∀ (H:AHeap) fs,upd (upd H a (.obj 464 fs)) lo (.list []) a=some (.obj 464 fs):=fun H fs=>upd_some upd_eq alo
 refine psW alo rfl (by show 8 < 100;decide) ?_
 have S7:=S6.put (o:=.obj 464 (pFs A f l r lo tm ply 0)) (a:=a) (.inl (by rw [p4];exact fun q=>nomatch q))
 have lr:l≠r:=fun e=>by rw [← e,upd_ne la,upd_eq] at rr;cases rr
 have llo:l≠lo:=fun e=>by rw [← e,upd_ne la,upd_ne lr,upd_ne la,upd_eq] at rlo;cases rlo
 have rlo':r≠lo:=fun e=>by rw [← e,upd_ne ar.symm,upd_eq] at rlo;cases rlo
 have bl:R l=none:=by rw [upd_ne la] at rl;exact rl
 have br:R r=none:=by
  have:=rr;rw [upd_ne ar.symm,upd_ne lr.symm,upd_ne ar.symm] at this;exact this
 have blo:R lo=none:=by
  have:=rlo;rw [upd_ne alo.symm,upd_ne rlo'.symm,upd_ne alo.symm,upd_ne llo.symm,upd_ne alo.symm] at this;exact this
 refine h _ _ l r lo S7 ⟨upd_eq,?_,⟨[],?_,trivial⟩,fun zz=>⟨⟨[],?_,trivial⟩,blo,llo,rlo'⟩,lr,ra,bl,br,?_⟩
 ·rw [upd_ne la,upd_ne llo,upd_ne la,upd_ne lr,upd_ne la,upd_eq]
 ·rw [upd_ne ar.symm,upd_ne rlo',upd_ne ar.symm,upd_eq];rfl
 ·rw [upd_ne alo.symm,upd_eq];rfl
 ·exact sub_put (sub_put (sub_put (sub_put (sub_put (sub_put (sub_put (fun zz zz e=>e) ra) bl) ra) br) ra) blo) ra
theorem x_tick (S:SR A f G age σ R H) {n:Nat} {Q X:EQ} (h0:f.most > 0→σ.nodes≥f.most→X (.int σ.nodes) H)
  (h1:¬ (f.most > 0∧σ.nodes≥f.most)→∀ H',SR A f G age { σ with nodes:=σ.nodes+1 } R H'→Q .none H'):FW theTab (n+1) false 134 [.ref A.c] H Q X:=by
 refine fw_in rfl rfl ?_
 refine cmost S ?_
 by_cases g1:f.most > 0
 ·refine dT g1 ?_
  refine cnodes S ?_
  refine cmost S ?_
  by_cases g2:σ.nodes≥f.most
  ·refine dT g2 ?_
   refine cnodes S ⟨rfl,rfl,h0 g1 g2⟩
  ·refine dF g2 ?_
   refine cnodes S ?_
   refine bAdd ?_
   exact nS S (h1 fun q=>g2 q.2)
 ·refine dF g1 ?_
  refine dF g1 ?_
  refine cnodes S ?_
  refine bAdd ?_
  exact nS S (h1 fun q=>g1 q.1)
noncomputable def Gm.nz (G:Gm) (x:Nat):List Nat:=(G.mv x).filter fun m=>G.no x m
theorem noisy_comp (S:SR A f G age σ R H) (O:GOk G) {x:Nat} (hx:σ.path.getLast? = some x) (hN:x < G.kids.length) {n l:Nat} {xs:List AV} (hl:H l=some (.list xs)) {K:List AV→AHeap→Prop} (todo:List Nat):∀ (acc:List Nat),(∀ m∈todo,Lg G x m)→K (nats (acc++todo.filter fun m=>G.no x m)) H →
  compIfL (.lst l xs) (fun v H K=>vE theTab false (FW theTab (n+1) false) (.meth (.loc 1) "is_noisy" (.cons (.loc 0) .nil)) [v,.ref A.g] H (fun x H=>truthy x H fun b=>K b H) (fun zz zz=>False)) (fun v H K=>vE theTab false (FW theTab (n+1) false) (.loc 0) [v,.ref A.g] H K (fun zz zz=>False)) (nats todo) (nats acc) H K:=by
 induction todo with
 | nil=>intro acc hm h;rw [List.filter_nil,List.append_nil] at h;exact h
 | cons m todo ih =>
  intro acc hm h
  obtain⟨m1,m2⟩:=hm m (.head _)
  refine mO S.st.game.1 rfl rfl ?_
  refine g_is_noisy S O hx hN m1 m2 ?_
  cases c:G.no x m with
  | true =>
   rw [List.filter_cons_of_pos c,List.append_cons] at h
   have go:=ih (acc++[m]) (fun y hy=>hm y (.tail _ hy)) h
   rw [← nats_snoc] at go
   exact tB ⟨hl,go⟩
  | false =>
   refine tB ⟨hl,ih acc (fun y hy=>hm y (.tail _ hy)) ?_⟩
   rw [List.filter_cons_of_neg (by rw [c];exact Bool.false_ne_true)] at h;exact h
theorem mv_lg {G:Gm} {x m:Nat}:m∈G.mv x↔Lg G x m :=
 List.mem_map.trans ⟨fun⟨k,h1,h2⟩=>h2 ▸ ⟨Nat.succ_pos k,List.mem_range.1 h1⟩,fun⟨h1,h2⟩=>⟨m - 1,List.mem_range.2 (Nat.lt_of_lt_of_le (Nat.sub_lt h1 Nat.one_pos) h2),Nat.sub_add_cancel h1⟩⟩
theorem g_noisy (S:SR A f G age σ R H) (O:GOk G) {x:Nat} (hx:σ.path.getLast? = some x) (hN:x < G.kids.length) {n:Nat} {Q X:EQ} (h:∀ H1 a,SR A f G age σ R H1→H1 a=none→Q (.ref a) (upd H1 a (.list (nats (G.nz x))))):FW theTab (n+2) false 620 [.ref A.g] H Q X:=by
 refine fw_in rfl rfl ?_
 refine mO S.st.game.1 rfl rfl ?_
 refine g_moves S O hx hN fun a ha=>?_
 have S1:=S.new (o:=.list (nats (G.mv x))) ha
 refine vO upd_eq ⟨rfl,?_⟩
 exact noisy_comp S1 O hx hN upd_eq (G.mv x) [] (fun m hm=>mv_lg.1 hm) fun b hb=>h _ b S1 hb
end
end Bn
namespace Bn
open Bm
noncomputable def fmx:Int→List Int→Int
 | b,[]=>b
 | b,a::l=>fmx (max b a) l
theorem fmx_max {a:Int}:∀ {l:List Int} {b:Int},fmx (max a b) l=max a (fmx b l)
 | [],b=>rfl
 | x::l,b=>by
  simp only [fmx]
  rw [Int.max_assoc]
  exact fmx_max
theorem fmx_perm {l l':List Int} (h:l.Perm l'):∀ b,fmx b l=fmx b l':=by
 induction h with
 | nil=>intro b;rfl
 | cons x _ ih=>intro b;exact ih _
 | swap x y l=>intro b;simp only [fmx];rw [Int.max_assoc,Int.max_comm y x,← Int.max_assoc]
 | trans _ _ h1 h2=>intro b;rw [h1,h2]
theorem fmx_low (l:List Int):∃ r,∀ b,-100000≤b→fmx b l=max b r:=⟨fmx (-100000) l,fun b h=>by
 have:=fmx_max (a:=b) (b:=-100000) (l:=l)
 rwa [show max b (-100000)=b by lia] at this⟩
theorem fmx_le {l:List Int} {a b:Int} (h:a∈l∨a=b):a≤fmx b l:=by
 induction l generalizing b with
 | nil =>
  rcases h with h | h
  ·simp at h
  ·subst h;exact Int.le_refl _
 | cons x l ih =>
  simp only [fmx]
  rcases h with h | h
  ·simp only [List.mem_cons] at h
   rcases h with h | h
   ·rw [show max b x=max x b by lia,fmx_max];lia
   ·exact ih (.inl h)
  ·rw [fmx_max,h];lia
noncomputable def Gm.to (G:Gm) (x m:Nat):Nat:=((G.kid x)[m - 1]?).getD 0
noncomputable def Gm.q (G:Gm):Nat→Nat→Nat→Int
 | 0,p,x=>if 0 < p∧G.dr x=true then 0 else if G.ck x=true∧G.kid x=[] then(p:Int) - 32000 else G.val x
 | c+1,p,x=>if 0 < p∧G.dr x=true then 0 else if G.ck x=true then(if G.kid x=[] then(p:Int) - 32000 else fmx (-32001) ((G.mv x).map fun m=>-G.q c (p+1) (G.to x m)))
   else fmx (G.val x) ((G.nz x).map fun m=>-G.q c (p+1) (G.to x m))
noncomputable def Gm.F (G:Gm) (c:Nat):Nat→Nat→Nat→Int
 | 0,p,x=>G.q c p x
 | d+1,p,x=>if 0 < p∧G.dr x=true then 0 else if G.kid x=[] then(if G.ck x=true then(p:Int) - 32000 else 0) else fmx (-32001) ((G.mv x).map fun m=>-G.F c d (p+1) (G.to x m))
noncomputable def NV (p D:Nat) (v:Int):Prop:=(-20000≤v∧v≤20000)∨(32000 - (p:Int) - D≤v∧v≤31999 - (p:Int))∨((p:Int) - 32000≤v∧v≤(p:Int) - 32000+D)
theorem NV.neg {p D v} (h:NV (p+1) D v):NV p (D+1) (-v):=by
 rcases h with ⟨h,k⟩ | ⟨h,k⟩ | ⟨h,k⟩
 ·exact .inl ⟨Int.neg_le_neg k,Int.neg_le_neg h⟩
 ·exact .inr (.inr (by lia))
 ·exact .inr (.inl (by lia))
theorem NV.up {p D D' v} (h:NV p D v) (hd:D≤D'):NV p D' v:=by
 rcases h with h | ⟨h,k⟩ | ⟨h,k⟩
 ·exact .inl h
 ·exact .inr (.inl ⟨by lia,k⟩)
 ·exact .inr (.inr ⟨h,by lia⟩)
theorem NV.max {p D a b} (h:NV p D a) (h2:NV p D b):NV p D (max a b):=by
 rcases Int.le_total a b with c | c
 ·rwa [Int.max_eq_right c]
 ·rwa [Int.max_eq_left c]
theorem NV.ge {p D v} (h:NV p D v) (hp:p+D≤100):(p:Int) - 32000≤v:=by unfold NV at h;lia
theorem NV.le {p D v} (h:NV p D v) (hp:p+D≤100):v≤31999 - (p:Int):=by unfold NV at h;lia
theorem NV.fmx {p D:Nat} (hp:p+D≤100):∀ {l:List Int} {b:Int},(∀ a∈l,NV p D a)→(NV p D b∨(b = -32001∧l≠[]))→NV p D (Bn.fmx b l)
 | [],b,h,hb=>by
  rcases hb with hb | hb
  ·exact hb
  ·exact absurd rfl hb.2
 | x::l,b,h,hb=>by
  have hx:=h x (by simp)
  refine NV.fmx (l:=l) hp (fun a m=>h a (by simp [m])) (.inl ?_)
  rcases hb with hb | hb
  ·exact hb.max hx
  ·have:=hx.ge hp
   rw [hb.1,show Max.max (-32001) x=x by lia];exact hx
theorem mv_nil {G:Gm} {x:Nat}:G.mv x=[]↔G.kid x=[]:=by unfold Gm.mv;simp
theorem val_rng {G:Gm} (O:GOk G) (x:Nat):-20000≤G.val x∧G.val x≤20000:=by
 unfold Gm.val
 cases h:G.vals[x]? with
 | none=>simp
 | some v=>exact O.valR v (List.mem_of_getElem? h)
theorem q_NV {G:Gm} (O:GOk G):∀ (c p x:Nat),p+c≤50→NV p (c+1) (G.q c p x)
 | 0,p,x,h=>by
  have:=val_rng O x
  unfold Gm.q
  split
  ·unfold NV;lia
  ·split
   ·unfold NV;lia
   ·unfold NV;lia
 | c+1,p,x,h=>by
  have hv:=val_rng O x
  have ih:∀ m,NV p (c+1+1) (-G.q c (p+1) (G.to x m)):=fun m=>(q_NV O c (p+1) (G.to x m) (by lia)).neg
  unfold Gm.q
  split
  ·unfold NV;lia
  ·split
   ·split
    ·unfold NV;lia
    ·rename_i hk
     refine NV.fmx (by lia) (fun a ha=>?_) (.inr ⟨rfl,fun e=>hk (mv_nil.1 (List.map_eq_nil_iff.1 e))⟩)
     obtain⟨m,_,rfl⟩:=List.mem_map.1 ha
     exact ih m
   ·refine NV.fmx (by lia) (fun a ha=>?_) (.inl (by unfold NV;lia))
    obtain⟨m,_,rfl⟩:=List.mem_map.1 ha
    exact ih m
theorem F_NV {G:Gm} (O:GOk G) (c:Nat):∀ (d p x:Nat),p+d+c≤50→NV p (d+c+1) (G.F c d p x)
 | 0,p,x,h=>by unfold Gm.F;exact(q_NV O c p x (by lia)).up (by lia)
 | d+1,p,x,h=>by
  have ih:∀ m,NV p (d+1+c+1) (-G.F c d (p+1) (G.to x m)):=fun m=>by
   have:=(F_NV O c d (p+1) (G.to x m) (by lia)).neg
   exact this.up (by lia)
  unfold Gm.F
  split
  ·unfold NV;lia
  ·split
   ·split
    ·unfold NV;lia
    ·unfold NV;lia
   ·rename_i hk
    refine NV.fmx (by lia) (fun a ha=>?_) (.inr ⟨rfl,fun e=>hk (mv_nil.1 (List.map_eq_nil_iff.1 e))⟩)
    obtain⟨m,_,rfl⟩:=List.mem_map.1 ha
    exact ih m
theorem mv_some {G:Gm} {x:Nat} (h:G.kid x≠[]):1∈G.mv x:=mv_lg.2 ⟨Nat.le_refl _,by
 cases e:G.kid x with
 | nil=>exact absurd e h
 | cons=>simp⟩
theorem q_low {G:Gm} (O:GOk G) (c p x:Nat) (h:p+c≤50) (e:G.q c p x=(p:Int) - 32000):G.kid x=[]:=by
 have hv:=val_rng O x
 cases c with
 | zero =>
  unfold Gm.q at e
  split at e
  ·lia
  ·split at e
   ·rename_i h2;exact h2.2
   ·lia
 | succ c =>
  unfold Gm.q at e
  split at e
  ·lia
  ·split at e
   ·split at e
    ·assumption
    ·rename_i hk
     have m1:-G.q c (p+1) (G.to x 1)∈(G.mv x).map fun m=>-G.q c (p+1) (G.to x m):=List.mem_map.2 ⟨1,mv_some hk,rfl⟩
     have:=fmx_le (b:=-32001) (.inl m1)
     have:=(q_NV O c (p+1) (G.to x 1) (by lia)).le (by lia)
     lia
   ·have:=fmx_le (l:=(G.nz x).map fun m=>-G.q c (p+1) (G.to x m)) (b:=G.val x) (.inr rfl)
    lia
theorem F_low {G:Gm} (O:GOk G) (c d p x:Nat) (h:p+d+c≤50) (e:G.F c d p x=(p:Int) - 32000):G.kid x=[]:=by
 cases d with
 | zero=>exact q_low O c p x (by lia) e
 | succ d =>
  unfold Gm.F at e
  split at e
  ·lia
  ·split at e
   ·assumption
   ·rename_i hk
    have m1:-G.F c d (p+1) (G.to x 1)∈(G.mv x).map fun m=>-G.F c d (p+1) (G.to x m):=List.mem_map.2 ⟨1,mv_some hk,rfl⟩
    have:=fmx_le (b:=-32001) (.inl m1)
    have:=(F_NV O c d (p+1) (G.to x 1) (by lia)).le (by lia)
    lia
noncomputable def rl (p p':Nat) (v v':Int):Prop:=(-20000≤v∧v≤20000∧v'=v)∨(31754≤v∧31754≤v'∧v+p=v'+p')∨(v≤-31754∧v'≤-31754∧v - p=v' - p')
theorem rl.neg {p p' v v'} (h:rl (p+1) (p'+1) v v'):rl p p' (-v) (-v'):=by
 rcases h with ⟨h,k,e⟩ | ⟨h,k,e⟩ | ⟨h,k,e⟩
 ·exact .inl ⟨Int.neg_le_neg k,Int.neg_le_neg h,by rw [e]⟩
 ·exact .inr (.inr ⟨Int.neg_le_neg h,Int.neg_le_neg k,by lia⟩)
 ·exact .inr (.inl ⟨Int.neg_le_neg h,Int.neg_le_neg k,by lia⟩)
theorem rl.le {p p' a a' b b'} (h:rl p p' a a') (h2:rl p p' b b') (l:a≤b):a'≤b':=by
 rcases h with ⟨h,k,e⟩ | ⟨h,k,e⟩ | ⟨h,k,e⟩ <;> rcases h2 with ⟨h2,k2,e2⟩ | ⟨h2,k2,e2⟩ | ⟨h2,k2,e2⟩
 ·rw [e,e2];exact l
 all_goals lia
theorem rl.max {p p' a a' b b'} (h:rl p p' a a') (h2:rl p p' b b'):rl p p' (max a b) (max a' b'):=by
 rcases Int.le_total a b with c | c
 ·rw [Int.max_eq_right c,Int.max_eq_right (h.le h2 c)];exact h2
 ·rw [Int.max_eq_left c,Int.max_eq_left (h2.le h c)];exact h
theorem rl.fmx {p p':Nat} {g g':Nat→Int}:∀ {ms:List Nat} {b b':Int},(∀ m∈ms,rl p p' (g m) (g' m)∧-32000≤g m∧-32000≤g' m)→(rl p p' b b'∨(b = -32001∧b' = -32001∧ms≠[]))→rl p p' (Bn.fmx b (ms.map g)) (Bn.fmx b' (ms.map g'))
 | [],b,b',h,hb=>by
  rcases hb with hb | hb
  ·exact hb
  ·exact absurd rfl hb.2.2
 | x::ms,b,b',h,hb=>by
  obtain⟨h1,h2,h3⟩:=h x (by simp)
  refine rl.fmx (ms:=ms) (fun m hm=>h m (by simp [hm])) (.inl ?_)
  rcases hb with hb | hb
  ·exact hb.max h1
  ·rw [hb.1,hb.2.1,show Max.max (-32001) (g x)=g x by lia,show Max.max (-32001) (g' x)=g' x by lia];exact h1
theorem q_rl {G:Gm} (O:GOk G):∀ (c p p' x:Nat),p+c≤50→p'+c≤50→0 < p→0 < p'→rl p p' (G.q c p x) (G.q c p' x)
 | 0,p,p',x,h,h',k,k'=>by
  have:=val_rng O x
  simp only [Gm.q,k,k',true_and]
  split
  ·unfold rl;lia
  ·split
   ·unfold rl;lia
   ·unfold rl;lia
 | c+1,p,p',x,h,h',k,k'=>by
  have hv:=val_rng O x
  have ih:∀ m,rl p p' (-G.q c (p+1) (G.to x m)) (-G.q c (p'+1) (G.to x m))∧-32000≤-G.q c (p+1) (G.to x m)∧-32000≤-G.q c (p'+1) (G.to x m):=fun m=>by
   refine⟨(q_rl O c (p+1) (p'+1) (G.to x m) (by lia) (by lia) (by lia) (by lia)).neg,?_,?_⟩
   ·have:=(q_NV O c (p+1) (G.to x m) (by lia)).le (by lia);lia
   ·have:=(q_NV O c (p'+1) (G.to x m) (by lia)).le (by lia);lia
  simp only [Gm.q,k,k',true_and]
  split
  ·unfold rl;lia
  ·split
   ·split
    ·unfold rl;lia
    ·rename_i hk
     exact rl.fmx (fun m zz=>ih m) (.inr ⟨rfl,rfl,fun e=>hk (mv_nil.1 e)⟩)
   ·exact rl.fmx (fun m zz=>ih m) (.inl (by unfold rl;lia))
theorem F_rl {G:Gm} (O:GOk G) (c:Nat):∀ (d p p' x:Nat),p+d+c≤50→p'+d+c≤50→0 < p→0 < p'→rl p p' (G.F c d p x) (G.F c d p' x)
 | 0,p,p',x,h,h',k,k'=>by unfold Gm.F;exact q_rl O c p p' x (by lia) (by lia) k k'
 | d+1,p,p',x,h,h',k,k'=>by
  have ih:∀ m,rl p p' (-G.F c d (p+1) (G.to x m)) (-G.F c d (p'+1) (G.to x m))∧-32000≤-G.F c d (p+1) (G.to x m)∧-32000≤-G.F c d (p'+1) (G.to x m):=fun m=>by
   refine⟨(F_rl O c d (p+1) (p'+1) (G.to x m) (by lia) (by lia) (by lia) (by lia)).neg,?_,?_⟩
   ·have:=(F_NV O c d (p+1) (G.to x m) (by lia)).le (by lia);lia
   ·have:=(F_NV O c d (p'+1) (G.to x m) (by lia)).le (by lia);lia
  simp only [Gm.F,k,k',true_and]
  split
  ·unfold rl;lia
  ·split
   ·split <;> (unfold rl;lia)
   ·rename_i hk
    exact rl.fmx (fun m zz=>ih m) (.inr ⟨rfl,rfl,fun e=>hk (mv_nil.1 e)⟩)
noncomputable def toT (v:Int) (p:Nat):Int:=if v≥31754 then v+p else if v≤-31754 then v - p else v
noncomputable def frT (v:Int) (p:Nat):Int:=if v≥31754 then v - p else if v≤-31754 then v+p else v
noncomputable def okp (x p:Nat):Prop:=x=0↔p=0
noncomputable def Gm.Tf (G:Gm) (c d x:Nat):Int:=if x=0 then G.F c d 0 0 else toT (G.F c d 1 x) 1
theorem toT_m {v:Int} {p:Nat} (h:-20000≤v∧v≤20000):toT v p=v:=by unfold toT;rw [if_neg (by lia),if_neg (by lia)]
theorem frT_m {v:Int} {p:Nat} (h:-20000≤v∧v≤20000):frT v p=v:=by unfold frT;rw [if_neg (by lia),if_neg (by lia)]
theorem toT_h {v:Int} {p:Nat} (h:31754≤v):toT v p=v+p:=if_pos h
theorem frT_h {v:Int} {p:Nat} (h:31754≤v):frT v p=v - p:=if_pos h
theorem toT_l {v:Int} {p:Nat} (h:v≤-31754):toT v p=v - p:=by unfold toT;rw [if_neg (by lia),if_pos h]
theorem frT_l {v:Int} {p:Nat} (h:v≤-31754):frT v p=v+p:=by unfold frT;rw [if_neg (by lia),if_pos h]
theorem NV.cs {p D v} (h:NV p D v) (hp:p+D≤100) {C:Prop} (a:-20000≤v∧v≤20000→C) (b:31754≤v→32000 - (p:Int) - D≤v→v≤31999 - (p:Int)→C) (c:v≤-31754→(p:Int) - 32000≤v→v≤(p:Int) - 32000+D→C):C:=by
 rcases h with h | ⟨h,k⟩ | ⟨h,k⟩
 ·exact a h
 ·exact b (by lia) h k
 ·exact c (by lia) h k
theorem toT_NV {p D v} (h:NV p D v) (hp:p+D≤100):NV 0 D (toT v p) :=
 h.cs hp (fun a=>by rw [toT_m a];exact .inl a) (fun a b c=>by rw [toT_h a];exact .inr (.inl (by lia))) (fun a b c=>by rw [toT_l a];exact .inr (.inr (by lia)))
theorem NV.c0 {p D v} (h:NV 0 D v) (hp:p+D≤100) {C:Prop} (a:-20000≤v∧v≤20000→C) (b:31754≤v - p→31754≤v→32000 - (D:Int)≤v→v≤31999→C) (c:v+p≤-31754→v≤-31754→-32000≤v→v≤-32000+D→C):C :=
 h.cs (by lia) a (fun zz zz zz=>b (by lia) (by lia) (by lia) (by lia)) (fun zz zz zz=>c (by lia) (by lia) (by lia) (by lia))
theorem frT_NV {p D v} (h:NV 0 D v) (hp:p+D≤100):NV p D (frT v p) :=
 h.c0 hp (fun a=>by rw [frT_m a];exact .inl a) (fun zz a zz zz=>by rw [frT_h a];exact .inr (.inl (by lia))) (fun zz a zz zz=>by rw [frT_l a];exact .inr (.inr (by lia)))
theorem to_fr {p D v} (h:NV 0 D v) (hp:p+D≤100):toT (frT v p) p=v :=
 h.c0 hp (fun a=>by rw [frT_m a,toT_m a]) (fun b a zz zz=>by rw [frT_h a,toT_h b,Int.sub_add_cancel]) (fun b a zz zz=>by rw [frT_l a,toT_l b,Int.add_sub_cancel])
theorem fr_to {p D v} (h:NV p D v) (hp:p+D≤100):frT (toT v p) p=v :=
 h.cs hp (fun a=>by rw [toT_m a,frT_m a]) (fun a zz zz=>by rw [toT_h a,frT_h (by lia),Int.add_sub_cancel]) (fun a zz zz=>by rw [toT_l a,frT_l (by lia),Int.sub_add_cancel])
theorem frT_mono {p D v w} (h:NV 0 D v) (h2:NV 0 D w) (hp:p+D≤100) (hl:v≤w):frT v p≤frT w p :=
 h.c0 hp (fun a=>by rw [frT_m a];exact h2.c0 hp (fun b=>by rw [frT_m b];exact hl) (fun zz b zz zz=>by rw [frT_h b];lia) (fun zz b zz zz=>by lia))
  (fun zz a zz zz=>by rw [frT_h a,frT_h (Int.le_trans a hl)];lia) (fun zz a zz zz=>by rw [frT_l a];exact h2.c0 hp (fun b=>by rw [frT_m b];lia) (fun zz b zz zz=>by rw [frT_h b];lia) (fun zz b zz zz=>by rw [frT_l b];lia))
theorem toT_mono {p D v w} (h:NV p D v) (h2:NV p D w) (hp:p+D≤100) (hl:v≤w):toT v p≤toT w p :=
 h.cs hp (fun a=>by rw [toT_m a];exact h2.cs hp (fun b=>by rw [toT_m b];exact hl) (fun b zz zz=>by rw [toT_h b];lia) (fun b zz zz=>by lia))
  (fun a zz zz=>by rw [toT_h a,toT_h (Int.le_trans a hl)];lia) (fun a zz zz=>by rw [toT_l a];exact h2.cs hp (fun b=>by rw [toT_m b];lia) (fun b zz zz=>by rw [toT_h b];lia) (fun b zz zz=>by rw [toT_l b];lia))
theorem Tf_NV {G:Gm} (O:GOk G) (c d x:Nat) (h:d+c≤20):NV 0 (d+c+1) (G.Tf c d x):=by
 unfold Gm.Tf
 split
 ·exact F_NV O c d 0 0 (by lia)
 ·exact toT_NV (F_NV O c d 1 x (by lia)) (by lia)
theorem F_fr {G:Gm} (O:GOk G) (c d x p:Nat) (hp:okp x p) (h:d+c≤20) (h2:p≤20):G.F c d p x=frT (G.Tf c d x) p:=by
 unfold okp at hp
 unfold Gm.Tf
 by_cases z:x=0
 ·have:p=0:=hp.1 z
  subst this;subst z
  simp only [if_true]
  exact((F_NV O c d 0 0 (by lia)).cs (by lia) (fun a=>frT_m a) (fun a zz zz=>(frT_h a).trans (Int.sub_zero _)) (fun a zz zz=>(frT_l a).trans (Int.add_zero _))).symm
 ·have k:0 < p:=by
   rcases Nat.eq_zero_or_pos p with e | e
   ·exact absurd (hp.2 e) z
   ·exact e
  rw [if_neg z]
  have r:=F_rl O c d 1 p x (by lia) (by lia) (by lia) k
  rcases r with ⟨h,k,e⟩ | ⟨h,k,e⟩ | ⟨h,k,e⟩
  ·rw [e,toT_m ⟨h,k⟩,frT_m ⟨h,k⟩]
  ·rw [toT_h h,frT_h (by lia)];lia
  ·rw [toT_l h,frT_l (by lia)];lia
noncomputable def Vt (G:Gm) (c:Nat) (key v d b:Int):Prop:=∃ x dn:Nat,key=(x:Int)+1∧d=(dn:Int)∧dn+c≤20∧NV 0 (dn+c+1) v∧((b=3∧v=G.Tf c dn x)∨(b=2∧v≤G.Tf c dn x)∨(b=1∧G.Tf c dn x≤v))
theorem Vt.get {G:Gm} (O:GOk G) {c x d p:Nat} {v b:Int} (h:Vt G c ((x+1:Nat):Int) v (d:Int) b) (hp:okp x p) (h2:p≤20):NV p (d+c+1) (frT v p)∧((b=3∧frT v p=G.F c d p x)∨(b=2∧frT v p≤G.F c d p x)∨(b=1∧G.F c d p x≤frT v p)):=by
 obtain⟨x',dn,e1,e2,e3,e4,e5⟩:=h
 have:x'=x:=by lia
 subst this
 have:dn=d:=by lia
 subst this
 have nt:=Tf_NV O c dn x' e3
 rw [F_fr O c dn x' p hp e3 h2]
 refine⟨frT_NV e4 (by lia),?_⟩
 rcases e5 with ⟨a,b⟩ | ⟨a,b⟩ | ⟨a,b⟩
 ·exact .inl ⟨a,by rw [b]⟩
 ·exact .inr (.inl ⟨a,frT_mono e4 nt (by lia) b⟩)
 ·exact .inr (.inr ⟨a,frT_mono nt e4 (by lia) b⟩)
theorem Vt.put {G:Gm} (O:GOk G) {c x d p:Nat} {v b:Int} (hp:okp x p) (h2:p≤20) (h3:d+c≤20) (hv:NV p (d+c+1) v) (h:(b=3∧v=G.F c d p x)∨(b=2∧v≤G.F c d p x)∨(b=1∧G.F c d p x≤v)):Vt G c ((x+1:Nat):Int) (toT v p) (d:Int) b:=by
 have nt:=Tf_NV O c d x h3
 have ef:=F_fr O c d x p hp h3 h2
 have nf:=F_NV O c d p x (by lia)
 have et:toT (G.F c d p x) p=G.Tf c d x:=by rw [ef];exact to_fr nt (by lia)
 refine⟨x,d,by lia,rfl,h3,toT_NV hv (by lia),?_⟩
 rcases h with ⟨a,b⟩ | ⟨a,b⟩ | ⟨a,b⟩
 ·exact .inl ⟨a,by rw [b,et]⟩
 ·exact .inr (.inl ⟨a,by rw [← et];exact toT_mono hv nf (by lia) b⟩)
 ·exact .inr (.inr ⟨a,by rw [← et];exact toT_mono nf hv (by lia) b⟩)
noncomputable def Res (F α β v:Int):Prop:=(v≤α→F≤v)∧(β≤v→v≤F)∧(α < v→v < β→v=F)
theorem Res.neg {F α β v} (h:Res F (-β) (-α) v):Res (-F) α β (-v):=by unfold Res at h ⊢;lia
theorem Res.eq {F α β:Int}:Res F α β F:=by unfold Res;lia
theorem fmx_c {best a:Int} {l:List Int} (h1:-32001≤best):∃ r,fmx best (a::l)=max (max best a) r∧∀ w,best≤w→fmx w l=max w r:=by
 obtain⟨r,hr⟩:=fmx_low l
 have q:(-100000:Int)≤best:=by lia
 exact⟨r,hr _ (Int.le_trans q (Int.le_max_left ..)),fun w hw=>hr w (Int.le_trans q hw)⟩
theorem lp_cut {best α β Fm v:Int} {l:List Int} (h1:-32001≤best) (h0:best≤α) (hr:Res Fm α β v) (h:β≤v) (hab:α < β):Res (fmx best (Fm::l)) α β v:=by
 obtain⟨r,e,-⟩:=fmx_c h1 (a:=Fm) (l:=l)
 rw [e]
 exact⟨fun q=>by lia,fun q=>Int.le_trans (hr.2.1 q) (Int.le_trans (Int.le_max_right ..) (Int.le_max_left ..)),fun zz q=>by lia⟩
theorem lp_up {best α β Fm w v:Int} {l:List Int} (h1:-32001≤best) (h0:best≤α) (hr:Res Fm α β w) (hw:best < w) (hwb:w < β) (hl:Res (fmx w l) (max α w) β v):Res (fmx best (Fm::l)) α β v:=by
 obtain⟨r,e,e2⟩:=fmx_c h1 (a:=Fm) (l:=l)
 rw [e];rw [e2 w (Int.le_of_lt hw)] at hl
 obtain⟨a1,a2,a3⟩:=hr;obtain⟨b1,b2,b3⟩:=hl
 have m1:=Int.le_max_left w r;have m2:=Int.le_max_right w r
 have hS:∀ x,best≤x→Fm≤x→r≤x→max (max best Fm) r≤x:=fun x q1 q2 q3=>Int.max_le.2 ⟨Int.max_le.2 ⟨q1,q2⟩,q3⟩
 have rS:=Int.le_max_right (max best Fm) r
 by_cases c:w≤α
 ·have fm:=a1 c
  rw [Int.max_eq_left c] at b1 b3
  have wr:∀ {x},x≤max w r→w < x→x≤r:=fun {x} q1 q2=>by lia
  refine⟨fun q=>?_,fun q=>?_,fun q q2=>?_⟩
  ·have:=b1 q;exact hS v (by lia) (by lia) (by lia)
  ·exact Int.le_trans (wr (b2 q) (by lia)) rS
  ·have:=b3 q q2;exact Int.le_antisymm (Int.le_trans (wr (Int.le_of_eq this) (by lia)) rS) (hS v (by lia) (by lia) (by lia))
 ·have fm:=a3 (by lia) hwb
  rw [Int.max_eq_right (by lia)] at b1 b3
  rw [← fm,Int.max_eq_right (Int.le_of_lt hw)]
  refine⟨fun q=>b1 (by lia),b2,fun q q2=>?_⟩
  by_cases g:w < v
  ·exact b3 g q2
  ·have:=b1 (by lia);exact Int.le_antisymm (by lia) this
theorem lp_same {best α β Fm w v:Int} {l:List Int} (h1:-32001≤best) (h0:best≤α) (hr:Res Fm α β w) (hw:w≤best) (hl:Res (fmx best l) α β v):Res (fmx best (Fm::l)) α β v:=by
 obtain⟨r,e,e2⟩:=fmx_c h1 (a:=Fm) (l:=l)
 rw [e,Int.max_eq_left (Int.le_trans (hr.1 (by lia)) hw),← e2 best (Int.le_refl _)]
 exact hl
noncomputable def Lead (G:Gm) (c:Nat):Nat→Nat→Nat→List Int→Int→Prop
 | d,p,x,[],_=>d=0∨G.kid x=[]∨(0 < p∧G.dr x=true)
 | 0,_,_,_::_,_=>False
 | d+1,p,x,m::r,v=>∃ m':Nat,m=(m':Int)∧Lg G x m'∧¬ (0 < p∧G.dr x=true)∧G.F c d (p+1) (G.to x m') = -v∧Lead G c d (p+1) (G.to x m') r (-v)
theorem Lead.len {G:Gm} {c:Nat}:∀ {d p x:Nat} {r:List Int} {v:Int},Lead G c d p x r v→r.length≤d
 | d,p,x,[],v,h=>by simp
 | 0,p,x,_::_,v,h=>h.elim
 | d+1,p,x,m::r,v,h=>by
  obtain⟨m',_,_,_,_,h⟩:=h
  have:=Lead.len h
  simp;lia
end Bn
namespace Bn
open Bm
structure SOk (G:Gm) (c:Nat) (f:Cf) (σ:Sg):Prop where
 tb:∀ cl w,f.tab=some (cl,w)→TS f cl w σ.slots∧TOk (Vt G c) σ.slots
 kh:f.kh=true→σ.first.length=3∧σ.second.length=3∧HOk σ.scores
 ll:σ.lines.length≤4
structure At (σ:Sg) (p x:Nat):Prop where
 len:σ.path.length=p+1
 last:σ.path.getLast? = some x
 unw:Unw σ
structure Fr (σ σ':Sg):Prop where
 path:σ'.path=σ.path
 made:σ'.made=σ.made
 nodes:σ.nodes≤σ'.nodes
theorem At.fr {σ σ' p x} (h:At σ p x) (f:Fr σ σ'):At σ' p x:=⟨by rw [f.path];exact h.len,by rw [f.path];exact h.last,⟨by rw [f.path];exact h.unw.hd,by rw [f.path,f.made];exact h.unw.md⟩⟩
theorem Fr.trans {a b c:Sg} (h:Fr a b) (k:Fr b c):Fr a c:=⟨k.path.trans h.path,k.made.trans h.made,Int.le_trans h.nodes k.nodes⟩
noncomputable def Runs (f:Cf) (G:Gm) (age:Int) (fn k:Nat) (args:Ad→List AV) (σ σ':Sg) (v:AV):Prop :=
 ∀ (N:Nat),k≤N→∀ (A:Ad) (most:Int) (R H:AHeap) (Q X:EQ),(most≤0∨σ.nodes≤most)→SR A { f with most:=most } G age σ R H →
  ((most≤0∨σ'.nodes≤most)→∀ H',SR A { f with most:=most } G age σ' R H'→Q v H') →
  (0 < most→most < σ'.nodes→∀ σ'' H',Unw σ''→σ''.nodes=most→SR A { f with most:=most } G age σ'' R H'→X (.int most) H') →
  FW theTab N false fn (args A) H Q X
theorem to_some {G:Gm} {x m:Nat} (h:Lg G x m):(G.kid x)[m - 1]? = some (G.to x m):=getD_of (Nat.lt_of_lt_of_le (Nat.sub_lt h.1 Nat.one_pos) h.2)
theorem to_lt {G:Gm} (O:GOk G) {x m:Nat} (h:Lg G x m):G.to x m < G.kids.length∧0 < G.to x m:=by
 have e:=to_some h
 unfold Gm.kid at e
 cases hk:G.kids[x]? with
 | none=>rw [hk] at e;cases e
 | some k =>
  rw [hk] at e
  have:=(O.kidR x k hk).2 (G.to x m) (List.mem_of_getElem? e)
  exact⟨this.2,Nat.lt_of_le_of_lt (Nat.zero_le x) this.1⟩
noncomputable def Sg.dn (σ:Sg) (y:Nat):Sg:={ σ with path:=σ.path++[y],made:=σ.made+1 }
noncomputable def Sg.bk (σ' σ:Sg):Sg:={ σ' with path:=σ.path,made:=σ'.made - 1 }
theorem At.dn {σ p x} (h:At σ p x) (y:Nat):At (σ.dn y) (p+1) y:=by
 have hl:(σ.path++[y]).length=p+1+1:=by rw [List.length_append,h.len];rfl
 refine⟨hl,List.getLast?_concat,⟨?_,?_⟩⟩
 ·show(σ.path++[y]).head? = some 0
  rw [List.head?_append,h.unw.hd];rfl
 ·have:=h.unw.md
  show σ.made+1=((σ.path++[y]).length:Int) - 1
  rw [hl,this,h.len,Int.sub_add_cancel];exact(Int.add_sub_cancel _ 1).symm
theorem Fr.bk {σ σ':Sg} {y:Nat} (h:Fr (σ.dn y) σ'):Fr σ (σ'.bk σ):=⟨rfl,by show σ'.made - 1=σ.made;rw [h.made];exact Int.add_sub_cancel _ 1,h.nodes⟩
theorem SOk.dn {G c f σ} (h:SOk G c f σ) (y:Nat):SOk G c f (σ.dn y):=⟨h.tb,h.kh,h.ll⟩
theorem SOk.bk {G c f σ'} (h:SOk G c f σ') (σ:Sg):SOk G c f (σ'.bk σ):=⟨h.tb,h.kh,h.ll⟩
theorem At.ne {σ p x} (h:At σ p x):σ.path≠[]:=fun e=>by have:=h.len;rw [e] at this;cases this
noncomputable def QS (G:Gm) (c0:Nat) (f:Cf) (age:Int) (c:Nat):Prop:=∀ (σ:Sg) (p x:Nat) (α β:Int),SOk G c0 f σ→At σ p x→x < G.kids.length→p+c≤20→α < β→-32001≤α→β≤32001 →
 ∃ v σ',SOk G c0 f σ'∧Fr σ σ'∧σ'.lines=σ.lines∧Res (G.q c p x) α β v∧NV p (c+1) v∧σ.nodes < σ'.nodes ∧
  ∀ pl ql:Int,pl=p→ql=c→Runs f G age 482 (2*c+8) (fun A=>[.ref A.c,.int α,.int β,.int pl,.int ql]) σ σ' (.int v)
noncomputable def todo (m:Nat) (P:Pk):List Nat:=if m=0 then [] else m::pend P
theorem x_next' (G:Gm) (O:GOk G) (f:Cf) (σ:Sg) (x:Nat) (hx:σ.path.getLast? = some x) (hN:x < G.kids.length) (h3:f.kh=true→σ.first.length=3∧σ.second.length=3) (P:Pk) (hs:P.stage≤5) (hm:∀ m∈pend P,Lg G x m) (hsm:P.left.length+P.losing.length < 1000) (hsz:(pend P).length < 1000) :
  ∃ (m:Nat) (P':Pk),(m≠0→P'.stage≤5∧P'.left.length+P'.losing.length < 1000∧(pend P').length < 1000)∧(pend P).Perm (todo m P') ∧
  ∀ (n:Nat) (A:Ad) (most age:Int) (B R H:AHeap) (p l r lo:Nat) (Q X:EQ),SR A { f with most:=most } G age σ R H→PR A { f with most:=most } p l r lo P B R →
   (∀ H' R' l' r',SR A { f with most:=most } G age σ R' H'→(m≠0→PR A { f with most:=most } p l' r' lo P' B R')→(∀ a o,B a=some o→R' a=some o)→Q (.int m) H') →
   FW theTab (n+5) false 435 [.ref p] H Q X:=by
 obtain⟨m,P',a1,a2,a3,a4,go⟩:=x_next G O f σ x hx hN h3 P hs hm hsm hsz
 refine⟨m,P',fun z=>⟨a1,a2,?_⟩,?_,go⟩
 ·have:=(a4 z).length_eq;simp only [List.length_cons] at this;lia
 ·unfold todo
  by_cases z:m=0
  ·rw [if_pos z,a3 z]
  ·rw [if_neg z];exact a4 z
theorem todo_0 {P:Pk}:todo 0 P=[]:=rfl
theorem todo_n {m:Nat} {P:Pk} (z:m≠0):todo m P=m::pend P:=if_neg z
structure Cl where
 A:Ad
 most:Int
 B:AHeap
 v1:AV
 v2:AV
 v3:AV
 Q:SQ
 X:SX
noncomputable def Cl.cf (Y:Cl) (f:Cf):Cf:={ f with most:=Y.most }
structure Cl.Ok (Y:Cl) (f:Cf) (G:Gm) (age:Int) (σ':Sg) (E:AHeap→Prop):Prop where
 h2:(Y.most≤0∨σ'.nodes≤Y.most)→∀ H',SR Y.A (Y.cf f) G age σ' Y.B H'→E H'
 h3:0 < Y.most→Y.most < σ'.nodes→∀ σ'' ρ H',Unw σ''→σ''.nodes=Y.most→SR Y.A (Y.cf f) G age σ'' Y.B H'→Y.X (.int Y.most) ρ H'
noncomputable def Go (f:Cf) (G:Gm) (age:Int) (k:Nat) (P:Pk) (m:Nat) (σ σ':Sg) (E:Cl→AHeap→Prop) (code:Nat→Cl→Nat→AHeap→Prop):Prop :=
 ∀ (n:Nat),k≤n→∀ (Y:Cl) (R H:AHeap) (pk l r lo:Nat),(Y.most≤0∨σ.nodes≤Y.most)→SR Y.A (Y.cf f) G age σ R H→(m≠0→PR Y.A (Y.cf f) pk l r lo P Y.B R)→(∀ a o,Y.B a=some o→R a=some o) →
  Y.Ok f G age σ' (E Y)→code n Y pk H
noncomputable def qW (n:Nat) (X:SX):Nat→List AV→AHeap→SQ→Prop:=whileL (fun ρ H K=>vE theTab false (FW theTab (n+8) false) (.cmp .ne (.loc 8) (.c (.int 0))) ρ H (fun v H=>truthy v H fun r=>K r H) (fun n H=>X n ρ H)) (fun ρ H K=>vSs theTab (FW theTab (n+8)) ir_quiesce_moves_loop0 false ρ H K X)
noncomputable def ql_rest:ISs:=match ir_quiesce_moves_loop0 with
 | .cons _ (.cons _ (.cons _ r))=>r
 | _=>.nil
noncomputable def qenv (Y:Cl) (best α β:Int) (p c pk m:Nat) (v9:AV):List AV:=[.ref Y.A.c,Y.v1,.int best,.int α,.int β,.int p,.int ((c:Int)+1),.ref pk,.int m,v9]
noncomputable def qE (v:Int) (Y:Cl) (H':AHeap):Prop:=(∀ ρ,lget ρ 2=.int v→Y.Q .next ρ H')∧(∀ ρ,Y.Q (.ret (.int v)) ρ H')
structure QO (G:Gm) (c0:Nat) (f:Cf) (σ σ':Sg) (M α β v:Int) (p D:Nat):Prop where
 ok:SOk G c0 f σ'
 fr:Fr σ σ'
 ln:σ'.lines=σ.lines
 res:Res M α β v
 nv:NV p D v
noncomputable def Gm.qs (G:Gm) (c p x:Nat) (ms:List Nat):List Int:=ms.map fun m=>-G.q c (p+1) (G.to x m)
structure QI (G:Gm) (c0:Nat) (f:Cf) (c p x k:Nat) (σ:Sg) (m:Nat) (P:Pk) (best α β:Int):Prop where
 len:(todo m P).length≤k
 ok:SOk G c0 f σ
 at_:At σ p x
 lg:∀ y∈todo m P,Lg G x y
 pk:m≠0→P.stage≤5∧P.left.length+P.losing.length < 1000∧(pend P).length < 1000
 h0:best≤α
 hab:α < β
 h1:-32001≤best
 nv:NV p (c+2) best∨(best = -32001∧todo m P≠[])
theorem q_loop (G:Gm) (O:GOk G) (c0:Nat) (f:Cf) (age:Int) (c:Nat) (ih:QS G c0 f age c) (p x:Nat) (hN:x < G.kids.length) (hpc:p+c≤19) (β:Int) (hβ:β≤32001) (k:Nat) :
  ∀ (σ:Sg) (m:Nat) (P:Pk) (best α:Int),QI G c0 f c p x k σ m P best α β →
  ∃ v σ',QO G c0 f σ σ' (fmx best (G.qs c p x (todo m P))) α β v p (c+2)∧Go f G age (2*c) P m σ σ' (qE v) fun n Y pk H=>∀ v9,qW n Y.X (k+1) (qenv Y best α β p c pk m v9) H Y.Q:=by
 have fin:∀ (k:Nat) (σ:Sg) (P:Pk) (best α:Int),QI G c0 f c p x k σ 0 P best α β →
   ∃ v σ',QO G c0 f σ σ' (fmx best (G.qs c p x (todo 0 P))) α β v p (c+2)∧Go f G age (2*c) P 0 σ σ' (qE v) fun n Y pk H=>∀ v9,qW n Y.X (k+1) (qenv Y best α β p c pk 0 v9) H Y.Q:=fun k σ P best α I=>by
  refine⟨best,σ,⟨I.ok,⟨rfl,rfl,Int.le_refl _⟩,rfl,Res.eq,I.nv.elim id fun h=>absurd rfl h.2⟩,fun n hn Y R H pk l r lo hmo S Z hB K v9=>?_⟩
  refine whI ?_
  refine nF rfl ?_
  exact(K.h2 hmo H (S.drop hB)).1 _ rfl
 induction k with
 | zero =>
  intro σ m P best α I
  by_cases z:m=0
  ·subst z;exact fin 0 σ P best α I
  ·have:=I.len;rw [todo_n z] at this;cases this
 | succ k IH =>
  intro σ m P best α I
  by_cases z:m=0
  ·subst z;exact fin _ σ P best α I
  ·have hk:=I.len;have hm:=I.lg;have hnv:=I.nv
   rw [todo_n z] at hk hm hnv ⊢
   obtain⟨hP1,hP2,hP3⟩:=I.pk z
   have T:=I.at_
   have lg:=hm m (.head _)
   have hab:=I.hab
   have h0:=I.h0
   have h1:=I.h1
   obtain⟨y1,y2⟩:=to_lt O lg
   obtain⟨v',σ2,I2,F2,L2,R2,V2,N2,run⟩:=ih (σ.dn (G.to x m)) (p+1) (G.to x m) (-β) (-α) (I.ok.dn _) (T.dn _) y1 (by lia) (Int.neg_lt_neg hab) (Int.neg_le_neg hβ) (by lia)
   have I3:=I2.bk σ
   have F3:=F2.bk
   have T3:=T.fr F3
   obtain⟨m2,P2,b1,b2,nxt⟩:=x_next' G O f (σ2.bk σ) x T3.last hN (fun h=>⟨(I3.kh h).1,(I3.kh h).2.1⟩) P hP1 (fun y hy=>hm y (.tail _ hy)) hP2 hP3
   have hlen:(todo m2 P2).length≤k:=by rw [← b2.length_eq];exact Nat.le_of_succ_le_succ hk
   have hm2:∀ y∈todo m2 P2,Lg G x y:=fun y hy=>hm y (.tail _ (b2.mem_iff.2 hy))
   have vr:=R2.neg
   have vn:NV p (c+2) (-v'):=V2.neg
   have vlo:=vn.ge (by lia)
   have fperm:∀ {b a v:Int},Res (fmx b (G.qs c p x (todo m2 P2))) a β v→Res (fmx b (G.qs c p x (pend P))) a β v:=fun h=>by rw [Gm.qs,fmx_perm (b2.map _)];exact h
   have head:∀ {v:Int} {σ':Sg},σ2.nodes≤σ'.nodes→Go f G age (2*c) P m (σ2.bk σ) σ' (qE v) (fun n Y pk H=>vSs theTab (FW theTab (n+8)) ql_rest false (qenv Y best α β p c pk m (.int (-v'))) H (aft (qW n Y.X (k+1)) Y.Q) Y.X) →
     Go f G age (2*c) P m σ σ' (qE v) fun n Y pk H=>∀ v9,qW n Y.X (k+1+1) (qenv Y best α β p c pk m v9) H Y.Q:=by
    intro v σ' hnn cont n hn Y R H pk l r lo hmo S Z hB K v9
    refine whI ?_
    refine nT (Int.ofNat_ne_zero.2 z) ?_
    refine x_step_into S O T.last hN (by rw [T.len];lia) lg.1 (to_some lg) fun H1 S1=>?_
    refine bAdd ?_
    refine bSub ?_
    refine run _ _ rfl (Int.add_sub_cancel _ 1) (n+8) (Nat.add_le_add_right hn 8) Y.A Y.most R H1 _ _ hmo S1 (fun hm2 H2 S2=>?_) (fun q1 q2 σ'' H'' u1 u2 u3=>?_)
    ·refine x_step_back S2 F2.path T.ne fun H3 S3=>?_
     exact cont n hn Y R H3 pk l r lo hm2 S3 Z hB K
    ·exact K.h3 q1 (Int.lt_of_lt_of_le q2 hnn) σ'' _ H'' u1 u2 (u3.drop hB)
   have turn:∀ {v:Int} {σ':Sg} {best' α':Int},Go f G age (2*c) P2 m2 (σ2.bk σ) σ' (qE v) (fun n Y pk H=>∀ v9,qW n Y.X (k+1) (qenv Y best' α' β p c pk m2 v9) H Y.Q)→∀ {n:Nat},2*c≤n→∀ {Y:Cl} {R H:AHeap} {pk l r lo:Nat},(Y.most≤0∨(σ2.bk σ).nodes≤Y.most)→SR Y.A (Y.cf f) G age (σ2.bk σ) R H→PR Y.A (Y.cf f) pk l r lo P Y.B R →
     Y.Ok f G age σ' (qE v Y)→vSs theTab (FW theTab (n+8)) (.cons (.asg 8 (.meth (.loc 7) "next" .nil)) .nil) false (qenv Y best' α' β p c pk m (.int (-v'))) H (aft (qW n Y.X (k+1)) Y.Q) Y.X:=by
    intro v σ' best' α' go n hn Y R H pk l r lo hmo S Z K
    refine mO (S.sub _ _ Z.obj) rfl rfl ?_
    refine nxt (n+3) Y.A Y.most age Y.B R H pk l r lo _ _ S Z fun H' R' l' r' S' Z' hB'=>?_
    refine aN ?_
    exact go n hn Y R' H' pk l' r' lo hmo S' Z' hB' K _
   by_cases c1:-v' > best
   ·by_cases c2:-v'≥β
    ·refine⟨-v',σ2.bk σ,⟨I3,F3,L2,lp_cut h1 h0 vr c2 hab,vn⟩,head (Int.le_refl _) fun n hn Y R H pk l r lo hmo S Z hB K=>?_⟩
     refine dT c1 ?_
     refine dT c2 ?_
     refine aR ?_
     exact(K.h2 hmo H (S.drop hB)).2 _
    ·obtain⟨v,σ',J,go⟩:=IH (σ2.bk σ) m2 P2 (-v') (max α (-v')) ⟨hlen,I3,T3,hm2,b1,Int.le_max_right ..,Int.max_lt.2 ⟨hab,Int.not_le.1 c2⟩,by lia,.inl vn⟩
     refine⟨v,σ',⟨J.ok,F3.trans J.fr,J.ln.trans L2,lp_up h1 h0 vr c1 (Int.not_le.1 c2) (fperm J.res),J.nv⟩,head J.fr.nodes fun n hn Y R H pk l r lo hmo S Z hB K=>?_⟩
     refine dT c1 ?_
     refine dF c2 ⟨rfl,?_⟩
     exact turn go hn hmo S (Z z) K
   ·obtain⟨v,σ',J,go⟩:=IH (σ2.bk σ) m2 P2 best α ⟨hlen,I3,T3,hm2,b1,h0,hab,h1,.inl (hnv.elim id fun h=>by lia)⟩
    refine⟨v,σ',⟨J.ok,F3.trans J.fr,J.ln.trans L2,lp_same h1 h0 vr (Int.not_lt.1 c1) (fperm J.res),J.nv⟩,head J.fr.nodes fun n hn Y R H pk l r lo hmo S Z hB K=>?_⟩
    refine dF c1 ?_
    exact turn go hn hmo S (Z z) K
theorem pend_new {tm:Int} {p:Nat} {mv:List Nat}:pend ⟨tm,p,0,mv,[],[]⟩=mv:=by rw [pend_0 (show 0≤3 by decide)];exact List.append_nil mv
theorem Runs.sp {k N:Nat} (h:k≤N):∃ n,N=n+k:=⟨N - k,(Nat.sub_add_cancel h).symm⟩
theorem x_quiesce_moves (G:Gm) (O:GOk G) (c0:Nat) (f:Cf) (age:Int) (c:Nat) (ih:QS G c0 f age c) (p x:Nat) (hN:x < G.kids.length) (hpc:p+c≤19) (mv:List Nat) (hmv:∀ y∈mv,Lg G x y) (hl:mv.length < 1000) (σ:Sg) (best α β:Int) (hβ:β≤32001) (I:SOk G c0 f σ) (T:At σ p x) (h0:best≤α) (hab:α < β) (h1:-32001≤best) (hnv:NV p (c+2) best∨(best = -32001∧mv≠[])) :
  ∃ v σ',QO G c0 f σ σ' (fmx best (G.qs c p x mv)) α β v p (c+2) ∧
  ∀ (n:Nat),2*c≤n→∀ (A:Ad) (most:Int) (R H:AHeap) (ml:Nat) (Q X:EQ),(most≤0∨σ.nodes≤most)→SR A { f with most:=most } G age σ R H→H ml=some (.list (nats mv)) →
   ((most≤0∨σ'.nodes≤most)→∀ H',SR A { f with most:=most } G age σ' R H'→Q (.int v) H') →
   (0 < most→most < σ'.nodes→∀ σ'' H',Unw σ''→σ''.nodes=most→SR A { f with most:=most } G age σ'' R H'→X (.int most) H') →
   FW theTab (n+9) false 489 [.ref A.c,.ref ml,.int best,.int α,.int β,.int p,.int ((c:Int)+1)] H Q X:=by
 obtain⟨m,P,b1,b2,nxt⟩:=x_next' G O f σ x T.last hN (fun h=>⟨(I.kh h).1,(I.kh h).2.1⟩) ⟨0,p,0,mv,[],[]⟩ (show 0≤5 by decide) (by rw [pend_new];exact hmv) hl (by rw [pend_new];exact hl)
 rw [pend_new] at b2
 obtain⟨v,σ',J,go⟩:=q_loop G O c0 f age c ih p x hN hpc β hβ (todo m P).length σ m P best α ⟨Nat.le_refl _,I,T,fun y hy=>hmv y (b2.mem_iff.2 hy),b1,h0,hab,h1,hnv.imp id fun⟨h,h'⟩=>⟨h,fun e=>h' (by rw [e] at b2;exact b2.eq_nil)⟩⟩
 refine⟨v,σ',⟨J.ok,J.fr,J.ln,by rw [Gm.qs,fmx_perm (b2.map _)];exact J.res,J.nv⟩,fun n hn A most R H ml Q X hmo S hml h2 h3=>?_⟩
 refine fw_in rfl rfl ?_
 refine cgame S ?_
 refine ckil S ?_
 refine chis S ?_
 intro pk hpk
 refine x_picker_init (n:=n+7) S hpk hml 0 p fun H1 R1 l r lo S1 Z1=>?_
 refine mO (S1.sub _ _ Z1.obj) rfl rfl ?_
 refine nxt (n+3) A most age R R1 H1 pk l r lo _ _ S1 Z1 fun H2 R2 l2 r2 S2 Z2 hB=>?_
 refine⟨_,go n hn ⟨A,most,R,.ref ml,.none,.none,_,_⟩ R2 H2 pk l2 r2 lo hmo S2 Z2 hB ⟨fun q1 H' S'=>⟨fun ρ hρ=>?_,fun ρ=>?_⟩,fun q1 q2 σ'' ρ H' u1 u2 u3=>h3 q1 q2 σ'' H' u1 u2 u3⟩ _⟩
 ·exact rLoc (n:=n+8) (hd:=false) (r:=.nil) (X:=callX X) hρ (h2 q1 H' S')
 ·exact h2 q1 H' S'
noncomputable def q_rest:ISs:=match ir_quiesce with
 | .cons _ (.cons _ (.cons _ r))=>r
 | _=>.nil
noncomputable def Sg.tk (σ:Sg):Sg:={ σ with nodes:=σ.nodes+1 }
theorem Sg.tk_lt {σ:Sg}:σ.nodes < σ.tk.nodes:=Int.lt_succ _
theorem SOk.tk {G c f σ} (h:SOk G c f σ):SOk G c f σ.tk:=⟨h.tb,h.kh,h.ll⟩
theorem Fr.tk {σ:Sg}:Fr σ σ.tk:=⟨rfl,rfl,Int.le_of_lt Sg.tk_lt⟩
theorem At.tk {σ p x} (T:At σ p x):At σ.tk p x:=⟨T.len,T.last,⟨T.unw.hd,T.unw.md⟩⟩
theorem tick_ok {most:Int} {σ:Sg} (q:¬ (most > 0∧σ.nodes≥most)):most≤0∨σ.tk.nodes≤most:=by
 by_cases h:most≤0
 ·exact .inl h
 ·exact .inr (Int.add_one_le_of_lt (Int.not_le.1 fun z=>q ⟨Int.not_le.1 h,z⟩))
noncomputable def Pos (p:Nat) (G:Gm) (x:Nat):Prop:=0 < p∧G.dr x=true
theorem q_walk (G:Gm) (O:GOk G) (f:Cf) (age:Int) (σ σ':Sg) (p x:Nat) (T:At σ p x) (hN:x < G.kids.length) (hn':σ.nodes < σ'.nodes) {n:Nat} {A:Ad} {most:Int} {R H:AHeap} {α β ql:Int} {Q X:EQ} (hmo:most≤0∨σ.nodes≤most) (S:SR A { f with most:=most } G age σ R H)
  (hd:Pos p G x→(most≤0∨σ.tk.nodes≤most)→∀ H',SR A { f with most:=most } G age σ.tk R H'→Q (.int 0) H')
  (hk:¬ Pos p G x→G.ck x=true→G.kid x=[]→(most≤0∨σ.tk.nodes≤most)→∀ H',SR A { f with most:=most } G age σ.tk R H'→Q (.int ((p:Int) - 32000)) H')
  (hq:¬ Pos p G x→G.ck x=true→G.kid x≠[]→ql≤0→(most≤0∨σ.tk.nodes≤most)→∀ H',SR A { f with most:=most } G age σ.tk R H'→Q (.int (G.val x)) H')
  (hm:¬ Pos p G x→G.ck x=true→G.kid x≠[]→0 < ql→(most≤0∨σ.tk.nodes≤most)→∀ H' a,SR A { f with most:=most } G age σ.tk R H'→H' a=some (.list (nats (G.mv x)))→FW theTab (n+3) false 489 [.ref A.c,.ref a,.int (-32001),.int α,.int β,.int p,.int ql] H' Q X)
  (hv:¬ Pos p G x→¬ G.ck x=true→ql≤0∨G.val x≥β→(most≤0∨σ.tk.nodes≤most)→∀ H',SR A { f with most:=most } G age σ.tk R H'→Q (.int (G.val x)) H')
  (hz:¬ Pos p G x→¬ G.ck x=true→0 < ql→¬ G.val x≥β→(most≤0∨σ.tk.nodes≤most)→∀ H' a,SR A { f with most:=most } G age σ.tk R H'→H' a=some (.list (nats (G.nz x)))→FW theTab (n+3) false 489 [.ref A.c,.ref a,.int (G.val x),.int (max α (G.val x)),.int β,.int p,.int ql] H' Q X)
  (hx:0 < most→most < σ'.nodes→∀ σ'' H',Unw σ''→σ''.nodes=most→SR A { f with most:=most } G age σ'' R H'→X (.int most) H') :
  FW theTab (n+4) false 482 [.ref A.c,.int α,.int β,.int p,.int ql] H Q X:=by
 have rest:¬ Pos p G x→(most≤0∨σ.tk.nodes≤most)→∀ H1,SR A { f with most:=most } G age σ.tk R H1→vSs theTab (FW theTab (n+3)) q_rest false [.ref A.c,.int α,.int β,.int p,.int ql,.ref A.g,.undef,.undef] H1 (retQ Q) (callX X):=by
  intro d hm1 H1 S1
  have T1:=T.tk
  refine mO S1.st.game.1 rfl rfl ?_
  refine g_in_check S1 O T1.last hN ?_
  by_cases ck:G.ck x=true
  ·refine bT ck ?_
   refine mO S1.st.game.1 rfl rfl ?_
   refine g_moves S1 O T1.last hN fun a ha=>?_
   have S2:=S1.new (o:=.list (nats (G.mv x))) ha
   refine tL upd_eq ?_
   by_cases hk':G.kid x=[]
   ·have e:G.mv x=[]:=mv_nil.2 hk'
    refine bT (by rw [e];rfl) ?_
    refine mated_in_ok ?_
    exact hk d ck hk' hm1 _ S2
   ·refine bF ?_ ?_
    ·cases hh:G.mv x with
     | nil=>exact absurd (mv_nil.1 hh) hk'
     | cons=>rfl
    by_cases h0:ql≤0
    ·refine dT h0 ?_
     refine mO S2.st.game.1 rfl rfl ?_
     exact g_value S2 O T1.last hN (hq d ck hk' h0 hm1 _ S2)
    ·refine dF h0 ?_
     exact hm d ck hk' (Int.not_le.1 h0) hm1 _ a S2 upd_eq
  ·refine bF (Bool.eq_false_iff.2 ck) ?_
   refine mO S1.st.game.1 rfl rfl ?_
   refine g_value S1 O T1.last hN ?_
   by_cases h0:ql≤0
   ·refine dT h0 ?_
    refine dT h0 ?_
    exact hv d ck (.inl h0) hm1 _ S1
   ·refine dF h0 ?_
    by_cases hb:G.val x≥β
    ·refine dT hb ?_
     exact hv d ck (.inr hb) hm1 _ S1
    ·refine dF hb ?_
     refine mO S1.st.game.1 rfl rfl ?_
     refine g_noisy S1 O T1.last hN fun H2 a S2 ha=>⟨rfl,?_⟩
     exact hz d ck (Int.not_le.1 h0) hb hm1 _ a (S2.new ha) upd_eq
 refine fw_in rfl rfl ?_
 refine mO S.dy.ctx rfl rfl ?_
 refine x_tick S (fun q1 q2=>?_) (fun q H1 S1=>?_)
 ·have e:σ.nodes=most:=hmo.elim (fun z=>absurd q1 (Int.not_lt.2 z)) fun z=>Int.le_antisymm z q2
  show X (.int σ.nodes) H
  rw [e]
  exact hx q1 (by rw [← e];exact hn') σ H T.unw e S
 have hm1:=tick_ok q
 refine cgame S1 ?_
 by_cases hp:0 < p
 ·refine dT (Int.natCast_pos.2 hp) ?_
  refine mO S1.st.game.1 rfl rfl ?_
  refine g_is_draw S1 O T.last hN ?_
  by_cases d:G.dr x=true
  ·refine bT d ?_
   exact hd ⟨hp,d⟩ hm1 H1 S1
  ·refine bF (Bool.eq_false_iff.2 d) ?_
   exact rest (fun z=>d z.2) hm1 H1 S1
 ·refine dF (fun z=>hp (Int.natCast_pos.1 z)) ?_
  refine dF (fun z=>hp (Int.natCast_pos.1 z)) ?_
  exact rest (fun z=>hp z.1) hm1 H1 S1
theorem q_dr {G:Gm} {c p x:Nat} (d:Pos p G x):G.q c p x=0:=by cases c <;> exact if_pos d
theorem x_quiesce (G:Gm) (O:GOk G) (c0:Nat) (f:Cf) (age:Int) (c:Nat):QS G c0 f age c:=by
 induction c with
 | zero =>
  intro σ p x α β I T hN hpc hab hα hβ
  refine⟨G.q 0 p x,σ.tk,I.tk,Fr.tk,rfl,Res.eq,q_NV O 0 p x (Nat.le_trans hpc (by decide)),Sg.tk_lt,fun pl ql e1 e2 N hNk A most R H Q X hmo S h2 h3=>?_⟩
  subst e1;subst e2
  obtain⟨n,rfl⟩:=Runs.sp (k:=4) (Nat.le_trans (by decide) hNk)
  refine q_walk G O f age σ σ.tk p x T hN Sg.tk_lt hmo S (fun d m H S=>q_dr d ▸ h2 m H S) (fun d ck hk m H S=>?_) (fun d ck hk zz m H S=>?_) (fun zz zz zz z=>by cases z) (fun d ck zz m H S=>?_) (fun zz zz z=>by cases z) h3
  ·have e:G.q 0 p x=(p:Int) - 32000:=(if_neg d).trans (if_pos ⟨ck,hk⟩)
   rw [← e];exact h2 m H S
  ·have e:G.q 0 p x=G.val x:=(if_neg d).trans (if_neg fun z=>hk z.2)
   rw [← e];exact h2 m H S
  ·have e:G.q 0 p x=G.val x:=(if_neg d).trans (if_neg fun z=>ck z.1)
   rw [← e];exact h2 m H S
 | succ c ih =>
  intro σ p x α β I T hN hpc hab hα hβ
  have hv:=val_rng O x
  have hp:p+c≤19:=Nat.le_of_succ_le_succ hpc
  have nvv:NV p (c+2) (G.val x):=.inl hv
  have one:∀ v,G.q (c+1) p x=v∨(¬ Pos p G x∧¬ G.ck x=true∧v=G.val x∧G.val x≥β)→Res (G.q (c+1) p x) α β v→NV p (c+2) v→(Pos p G x∨(¬ Pos p G x∧G.ck x=true∧G.kid x=[])∨(¬ Pos p G x∧¬ G.ck x=true∧v=G.val x∧G.val x≥β)) →
    ∃ v σ',SOk G c0 f σ'∧Fr σ σ'∧σ'.lines=σ.lines∧Res (G.q (c+1) p x) α β v∧NV p (c+1+1) v∧σ.nodes < σ'.nodes∧∀ pl ql:Int,pl=p→ql=((c+1:Nat):Int)→Runs f G age 482 (2*(c+1)+8) (fun A=>[.ref A.c,.int α,.int β,.int pl,.int ql]) σ σ' (.int v):=by
   intro v hv' hr hn hc
   refine⟨v,σ.tk,I.tk,Fr.tk,rfl,hr,hn,Sg.tk_lt,fun pl ql e1 e2 N hNk A most R H Q X hmo S h2 h3=>?_⟩
   subst e1;subst e2
   obtain⟨n,rfl⟩:=Runs.sp (k:=4) (Nat.le_trans (Nat.le_add_left 4 (2*(c+1)+4)) hNk)
   refine q_walk G O f age σ σ.tk p x T hN Sg.tk_lt hmo S (fun d m H S=>?_) (fun d ck hk m H S=>?_) (fun d ck hk zz m H S=>?_) (fun d ck hk zz=>?_) (fun d ck zz m H S=>?_) (fun d ck zz hb=>?_) h3
   ·rcases hv' with e | e
    ·rw [← q_dr d,e];exact h2 m H S
    ·exact absurd d e.1
   ·rcases hv' with e | e
    ·have e2:G.q (c+1) p x=(p:Int) - 32000:=(if_neg d).trans ((if_pos ck).trans (if_pos hk))
     rw [← e2,e];exact h2 m H S
    ·exact absurd ck e.2.1
   ·rcases hc with h | h | h
    ·exact absurd h d
    ·exact absurd h.2.2 hk
    ·exact absurd ck h.2.1
   ·rcases hc with h | h | h
    ·exact absurd h d
    ·exact absurd h.2.2 hk
    ·exact absurd ck h.2.1
   ·rcases hc with h | h | h
    ·exact absurd h d
    ·exact absurd h.2.1 ck
    ·rw [← h.2.2.1];exact h2 m H S
   ·rcases hc with h | h | h
    ·exact absurd h d
    ·exact absurd h.2.1 ck
    ·exact absurd h.2.2.2 hb
  have row:∀ (mv:List Nat) (best α':Int),(¬ Pos p G x∧((G.ck x=true∧G.kid x≠[]∧mv=G.mv x∧best = -32001∧α'=α)∨(¬ G.ck x=true∧¬ G.val x≥β∧mv=G.nz x∧best=G.val x∧α'=max α (G.val x))))→(∀ y∈mv,Lg G x y)→mv.length < 1000→best≤α'→α' < β→-32001≤best→(NV p (c+2) best∨best = -32001∧mv≠[]) →
    G.q (c+1) p x=fmx best (G.qs c p x mv)→(∀ v,Res (G.q (c+1) p x) α' β v→Res (G.q (c+1) p x) α β v) →
    ∃ v σ',SOk G c0 f σ'∧Fr σ σ'∧σ'.lines=σ.lines∧Res (G.q (c+1) p x) α β v∧NV p (c+1+1) v∧σ.nodes < σ'.nodes∧∀ pl ql:Int,pl=p→ql=((c+1:Nat):Int)→Runs f G age 482 (2*(c+1)+8) (fun A=>[.ref A.c,.int α,.int β,.int pl,.int ql]) σ σ' (.int v):=by
   intro mv best α' hc hmv hl h0 hab' h1 hnv e hr
   obtain⟨v,σ',J,go⟩:=x_quiesce_moves G O c0 f age c ih p x hN hp mv hmv hl σ.tk best α' β hβ I.tk T.tk h0 hab' h1 hnv
   have hn:σ.nodes < σ'.nodes:=Int.lt_of_lt_of_le Sg.tk_lt J.fr.nodes
   refine⟨v,σ',J.ok,Fr.tk.trans J.fr,J.ln,hr v (e ▸ J.res),J.nv,hn,fun pl ql e1 e2 N hNk A most R H Q X hmo S h2 h3=>?_⟩
   subst e1;subst e2
   obtain⟨n,rfl⟩:=Runs.sp (k:=10) (Nat.le_trans (Nat.le_add_left 10 (2*c)) hNk)
   have hn2:2*c≤n:=Nat.le_of_add_le_add_right (show 2*c+10≤n+10 from hNk)
   refine q_walk (n:=n+6) G O f age σ σ' p x T hN hn hmo S (fun d=>absurd d hc.1) (fun d ck hk=>?_) (fun d ck hk z=>absurd z (Int.not_le.2 (Int.natCast_pos.2 (Nat.succ_pos c)))) (fun d ck hk zz m H a S ha=>?_) (fun d ck z=>?_) (fun d ck zz hb m H a S ha=>?_) h3
   ·rcases hc.2 with h | h
    ·exact absurd hk h.2.1
    ·exact absurd ck h.1
   ·rcases hc.2 with ⟨_,_,rfl,rfl,rfl⟩ | h
    ·exact go n hn2 A most R H a Q X m S ha h2 h3
    ·exact absurd ck h.1
   ·rcases hc.2 with h | h
    ·exact absurd h.1 ck
    ·exact z.elim (fun z=>absurd z (Int.not_le.2 (Int.natCast_pos.2 (Nat.succ_pos c)))) fun z=>absurd z h.2.1
   ·rcases hc.2 with h | ⟨_,_,rfl,rfl,rfl⟩
    ·exact absurd h.1 ck
    ·exact go n hn2 A most R H a Q X m S ha h2 h3
  by_cases d:Pos p G x
  ·have e:G.q (c+1) p x=0:=q_dr d
   exact one 0 (.inl e) (by rw [e];exact Res.eq) (.inl (by decide)) (.inl d)
  by_cases ck:G.ck x=true
  ·by_cases hk:G.kid x=[]
   ·have e:G.q (c+1) p x=(p:Int) - 32000:=(if_neg d).trans ((if_pos ck).trans (if_pos hk))
    exact one _ (.inl e) (by rw [e];exact Res.eq) (.inr (.inr ⟨Int.le_refl _,Int.le_add_of_nonneg_right (Int.natCast_nonneg _)⟩)) (.inr (.inl ⟨d,ck,hk⟩))
   ·have e:G.q (c+1) p x=fmx (-32001) (G.qs c p x (G.mv x)):=(if_neg d).trans ((if_pos ck).trans (if_neg hk))
    have hlen:(G.mv x).length < 1000:=by unfold Gm.mv;rw [List.length_map,List.length_range];exact Nat.lt_of_le_of_lt (kid_le O x) (by decide)
    exact row (G.mv x) (-32001) α ⟨d,.inl ⟨ck,hk,rfl,rfl,rfl⟩⟩ (fun y hy=>mv_lg.1 hy) hlen hα hab (Int.le_refl _) (.inr ⟨rfl,fun z=>hk (mv_nil.1 z)⟩) e fun zz h=>h
  ·have ef:G.q (c+1) p x=fmx (G.val x) (G.qs c p x (G.nz x)):=(if_neg d).trans (if_neg ck)
   have fge:G.val x≤G.q (c+1) p x:=by rw [ef];exact fmx_le (.inr rfl)
   by_cases hb:G.val x≥β
   ·exact one (G.val x) (.inr ⟨d,ck,rfl,hb⟩) ⟨fun z=>by lia,fun zz=>fge,fun zz z=>by lia⟩ nvv (.inr (.inr ⟨d,ck,rfl,hb⟩))
   ·have hlen:(G.nz x).length < 1000:=by
     have h2:(G.nz x).length≤(G.mv x).length:=List.length_filter_le _ _
     unfold Gm.mv at h2;rw [List.length_map,List.length_range] at h2
     exact Nat.lt_of_le_of_lt (Nat.le_trans h2 (kid_le O x)) (by decide)
    refine row (G.nz x) (G.val x) (max α (G.val x)) ⟨d,.inr ⟨ck,hb,rfl,rfl,rfl⟩⟩ (fun y hy=>mv_lg.1 (List.mem_filter.1 hy).1) hlen (Int.le_max_right ..) (Int.max_lt.2 ⟨hab,Int.not_le.1 hb⟩) (by lia) (.inl nvv) ef fun v h=>?_
    refine⟨fun z=>?_,h.2.1,fun z1 z2=>?_⟩
    ·exact h.1 (Int.le_trans z (Int.le_max_left ..))
    ·by_cases g:max α (G.val x) < v
     ·exact h.2.2 g z2
     ·have:=h.1 (Int.not_lt.1 g);lia
end Bn
namespace Bn
open Bm
theorem x_mate_in {n:Nat} {hd:Bool} {p:Int} {H:AHeap} {Q X:EQ} (h:Q (.int (32000 - p)) H):FW theTab (n+1) hd 99 [.int p] H Q X:=by
 refine fw_in rfl rfl ?_
 exact bSub h
theorem x_from {v pl:Int} {p:Nat} (e:pl=p) {n:Nat} {hd:Bool} {H:AHeap} {Q X:EQ} (h:Q (.int (frT v p)) H):FW theTab (n+1) hd 113 [.int v,.int pl] H Q X:=by
 subst e
 refine fw_in rfl rfl ?_
 unfold frT at h
 by_cases c1:v≥31754
 ·rw [if_pos c1] at h
  refine dT c1 ?_
  exact bSub h
 ·rw [if_neg c1] at h
  refine dF c1 ?_
  by_cases c2:v≤-31754
  ·rw [if_pos c2] at h
   refine dT c2 ?_
   exact bAdd h
  ·rw [if_neg c2] at h
   refine dF c2 ?_
   exact h
theorem x_to {v pl:Int} {p:Nat} (e:pl=p) {n:Nat} {hd:Bool} {H:AHeap} {Q X:EQ} (h:Q (.int (toT v p)) H):FW theTab (n+1) hd 106 [.int v,.int pl] H Q X:=by
 subst e
 refine fw_in rfl rfl ?_
 unfold toT at h
 by_cases c1:v≥31754
 ·rw [if_pos c1] at h
  refine dT c1 ?_
  exact bAdd h
 ·rw [if_neg c1] at h
  refine dF c1 ?_
  by_cases c2:v≤-31754
  ·rw [if_pos c2] at h
   refine dT c2 ?_
   exact bSub h
  ·rw [if_neg c2] at h
   refine dF c2 ?_
   exact h
noncomputable def cutB (v d b want α β:Int):Bool:=decide (d=want)&&(decide (b=3)||(decide (b=2)&&decide (v≥β))||(decide (b=1)&&decide (v≤α)))
theorem x_cutoff {v d b want α β:Int} {n:Nat} {hd:Bool} {H:AHeap} {Q X:EQ} (h:Q (.bool (cutB v d b want α β)) H):FW theTab (n+1) hd 295 [.int v,.int d,.int b,.int want,.bool true,.int α,.int β] H Q X:=by
 refine fw_in rfl rfl ?_
 unfold cutB at h
 refine bT rfl ?_
 by_cases c1:d=want
 ·rw [decide_eq_true c1] at h
  refine nF c1 ?_
  refine dF (by rw [c1];exact Int.lt_irrefl _) ?_
  by_cases b3:b=3
  ·rw [decide_eq_true b3] at h
   refine dT b3 ?_
   exact h
  ·rw [decide_eq_false b3] at h
   refine dF b3 ?_
   by_cases b2:b=2
   ·rw [decide_eq_true b2,decide_eq_false (show ¬ b=1 by rw [b2];decide)] at h
    refine dT b2 ?_
    have e:(true&&(false||true&&decide (v≥β)||false&&decide (v≤α)))=decide (v≥β):=Bool.or_false _
    rw [e] at h
    exact h
   ·rw [decide_eq_false b2] at h
    refine dF b2 ?_
    by_cases b1:b=1
    ·rw [decide_eq_true b1] at h
     refine dT b1 ?_
     exact h
    ·rw [decide_eq_false b1] at h
     refine dF b1 ?_
     exact h
 ·rw [decide_eq_false c1] at h
  refine nT c1 ?_
  exact h
noncomputable def ov (o:Option Int):AV:=match o with
 | none=>.none
 | some v=>.int v
theorem tabV_some {A:Ad} {f:Cf} {x:Nat×Nat} (h:f.tab=some x):tabV A f=.ref A.t:=by unfold tabV;rw [h];rfl
theorem tabV_none {A:Ad} {f:Cf} (h:f.tab=none):tabV A f=.none:=by unfold tabV;rw [h];rfl
section
variable {A:Ad} {f:Cf} {G:Gm} {age most:Int} {σ:Sg} {R H:AHeap}
theorem ctabN (S:SR A { f with most:=most } G age σ R H) (h:f.tab=none) {Q:AV→Prop} (q:Q .none):vAttr theTab (.ref A.c) "table" H Q:=ctab S (by rw [tabV_none (f:={ f with most:=most }) h];exact q)
theorem ctabS (S:SR A { f with most:=most } G age σ R H) {x:Nat×Nat} (h:f.tab=some x) {Q:AV→Prop} (q:Q (.ref A.t)):vAttr theTab (.ref A.c) "table" H Q:=ctab S (by rw [tabV_some (f:={ f with most:=most }) h];exact q)
end
theorem tab_cases (f:Cf):f.tab=none∨∃ cw,f.tab=some cw:=by cases f.tab with
 | none=>exact .inl rfl
 | some x=>exact .inr ⟨x,rfl⟩
noncomputable def LookR (G:Gm) (f:Cf) (σ:Sg) (x p d:Nat) (α β tm:Int) (o:Option Int):Prop:=∀ (n:Nat) (A:Ad) (most age:Int) (R H:AHeap) (dl:Int) (Q X:EQ),dl=d→SR A { f with most:=most } G age σ R H →
 (∀ H1 a,SR A { f with most:=most } G age σ R H1→H1 a=none→Q (.ref a) (upd H1 a (.tup [.int tm,ov o]))) →
 FW theTab (n+3) false 517 [.ref A.c,.int ((x:Int)+1),.int α,.int β,.int dl,.int p] H Q X
theorem x_look_up (G:Gm) (O:GOk G) (c:Nat) (f:Cf) (σ:Sg) (p x d:Nat) (α β:Int) (hab:α < β) (I:SOk G c f σ) (hp:okp x p) (h2:p≤20) (hdc:d+c≤20) :
  ∃ (tm:Int) (o:Option Int),(∀ v,o=some v→Res (G.F c d p x) α β v∧NV p (d+c+1) v)∧LookR G f σ x p d α β tm o:=by
 rcases tab_cases f with htab | ⟨⟨cl,w⟩,htab⟩
 ·refine⟨0,none,(fun zz z=>nomatch z),fun n A most age R H dl Q X e2 S h=>?_⟩
  refine fw_in rfl rfl ?_
  refine ctabN S htab ?_
  refine bT rfl ?_
  intro a ha
  exact h H a S ha
 ·obtain⟨ts,tk⟩:=I.tb cl w htab
  obtain⟨r,r1,r2⟩:=x_probe ts tk (x+1)
  cases hr:r with
  | none =>
   refine⟨0,none,(fun zz z=>nomatch z),fun n A most age R H dl Q X e2 S h=>?_⟩
   refine fw_in rfl rfl ?_
   refine ctabS S htab ?_
   refine bF rfl ?_
   refine ctabS S htab ?_
   refine mO (S.st.tab cl w htab).1 rfl rfl ?_
   refine r2 n A most G age σ R H _ _ rfl S (fun zz=>?_) (fun m v d b H1 a z=>by rw [hr] at z;cases z)
   refine bT rfl ?_
   intro a ha
   exact h H a S ha
  | some row =>
   obtain⟨m,v,dd,b⟩:=row
   obtain⟨m0,m1,hV⟩:=r1 m v dd b hr
   have run:∀ (o:Option Int) (q:Bool),q=cutB (frT v p) dd b d α β→o=(match q with | true=>some (frT v p) | false=>none)→LookR G f σ x p d α β m o:=by
    intro o q hq ho n A most age R H dl Q X e2 S h
    subst e2
    refine fw_in rfl rfl ?_
    refine ctabS S htab ?_
    refine bF rfl ?_
    refine ctabS S htab ?_
    refine mO (S.st.tab cl w htab).1 rfl rfl ?_
    refine r2 n A most G age σ R H _ _ rfl S (fun z=>by rw [hr] at z;cases z) (fun m' v' d' b' H1 a z S1 ha=>?_)
    rw [hr] at z;cases z
    have S2:=S1.new (o:=.tup [.int m,.int v,.int dd,.int b]) ha
    refine bF rfl ?_
    refine iT (j:=1) upd_eq rfl rfl ?_
    refine x_from rfl ?_
    refine iT (j:=2) upd_eq rfl rfl ?_
    refine iT (j:=3) upd_eq rfl rfl ?_
    refine cex S2 ?_
    refine x_cutoff ?_
    rw [← hq]
    cases q with
    | true =>
     subst ho
     refine bT rfl ?_
     refine iT (j:=0) upd_eq rfl rfl ?_
     intro a' ha'
     exact h _ a' S2 ha'
    | false =>
     subst ho
     refine bF rfl ?_
     refine iT (j:=0) upd_eq rfl rfl ?_
     intro a' ha'
     exact h _ a' S2 ha'
   refine⟨m,_,?_,run _ _ rfl rfl⟩
   intro u hu
   cases c:cutB (frT v p) dd b d α β with
   | true =>
    rw [c] at hu;cases hu
    unfold cutB at c
    simp only [Bool.and_eq_true,Bool.or_eq_true,decide_eq_true_eq] at c
    obtain⟨c1,c2⟩:=c
    subst c1
    obtain⟨g1,g2⟩:=hV.get O hp h2
    refine⟨?_,g1⟩
    rcases g2 with ⟨_,e⟩ | ⟨b2,e⟩ | ⟨b1,e⟩
    ·rw [e];exact Res.eq
    ·have hv:frT v p≥β:=by
      rcases c2 with (h | h) | h
      ·rw [b2] at h;cases h
      ·exact h.2
      ·rw [b2] at h;cases h.1
     exact⟨fun z=>by lia,fun zz=>e,fun zz z=>by lia⟩
    ·have hv:frT v p≤α:=by
      rcases c2 with (h | h) | h
      ·rw [b1] at h;cases h
      ·rw [b1] at h;cases h.1
      ·exact h.2
     exact⟨fun zz=>e,fun z=>by lia,fun z=>by lia⟩
   | false=>rw [c] at hu;cases hu
noncomputable def kv_rest:ISs:=match ir_keep_value with
 | .cons _ r=>r
 | _=>.nil
noncomputable def kv_put:ISs:=match kv_rest with
 | .cons _ (.cons _ r)=>r
 | _=>.nil
noncomputable def kenv (A:Ad) (x bm p:Nat) (best start β dl:Int) (b:AV):List AV:=[.ref A.c,.int ((x:Int)+1),.int bm,.int best,.int start,.int β,.int dl,.int p,b]
theorem x_keep (G:Gm) (O:GOk G) (c:Nat) (f:Cf) (age:Int) (hag:0≤age∧age < 64) (σ:Sg) (p x d bm:Nat) (best start β:Int) (I:SOk G c f σ) (hp:okp x p) (h2:p≤20) (hdc:d+c≤20) (hx:x < 50) (hbm:bm≤2) (hs:start < β) (hnv:NV p (d+c+1) best) (hr:Res (G.F c d p x) start β best) :
  ∃ sl',SOk G c f { σ with slots:=sl' } ∧
  ∀ (n:Nat) (A:Ad) (most:Int) (R H:AHeap) (dl:Int) (Q X:EQ),dl=d→SR A { f with most:=most } G age σ R H →
   (∀ H',SR A { f with most:=most } G age { σ with slots:=sl' } R H'→Q .none H') →
   FW theTab (n+5) false 524 [.ref A.c,.int ((x:Int)+1),.int bm,.int best,.int start,.int β,.int dl,.int p] H Q X:=by
 rcases tab_cases f with htab | ⟨⟨cl,w⟩,htab⟩
 ·refine⟨σ.slots,I,fun n A most R H dl Q X e2 S h=>?_⟩
  refine fw_in rfl rfl ?_
  refine ctabN S htab ?_
  refine bT rfl ?_
  exact h H S
 ·obtain⟨ts,tk⟩:=I.tb cl w htab
  have nt:NV 0 (d+c+1) (toT best p):=toT_NV hnv (by lia)
  have nlo:=nt.ge (by lia)
  have nhi:=nt.le (by lia)
  have fin:∀ b:Int,1≤b→b≤3→((b=3∧best=G.F c d p x)∨(b=2∧best≤G.F c d p x)∨(b=1∧G.F c d p x≤best)) →
    (∀ {n:Nat} {A:Ad} {H:AHeap} {Q:SQ} {X:SX} {dl:Int},vSs theTab (FW theTab n) kv_put false (kenv A x bm p best start β dl (.int b)) H Q X→vSs theTab (FW theTab n) kv_rest false (kenv A x bm p best start β dl .undef) H Q X) →
    ∃ sl',SOk G c f { σ with slots:=sl' } ∧
     ∀ (n:Nat) (A:Ad) (most:Int) (R H:AHeap) (dl:Int) (Q X:EQ),dl=d→SR A { f with most:=most } G age σ R H →
      (∀ H',SR A { f with most:=most } G age { σ with slots:=sl' } R H'→Q .none H') →
      FW theTab (n+5) false 524 [.ref A.c,.int ((x:Int)+1),.int bm,.int best,.int start,.int β,.int dl,.int p] H Q X:=by
   intro b b1 b3 hb st
   obtain⟨sl',t1,t2,go⟩:=x_save ts tk (x+1) (m:=(bm:Int)) (v:=toT best p) (d:=(d:Int)) (b:=b) (age:=age)
    ⟨Int.natCast_nonneg _,by lia,Int.natCast_nonneg _,by lia,by lia,by lia,by lia,by lia,by lia,b3,hag.1,hag.2⟩ (Vt.put O hp h2 hdc hnv hb)
   refine⟨sl',⟨fun cl' w' e=>?_,I.kh,I.ll⟩,fun n A most R H dl Q X e2 S h=>?_⟩
   ·rw [htab] at e;cases e;exact⟨t1,t2⟩
   subst e2
   refine fw_in rfl rfl ?_
   refine ctabS S htab ?_
   refine bF rfl ?_
   refine st (A:=A) (dl:=d) ?_
   refine ctabS S htab ?_
   refine mO (S.st.tab cl w htab).1 rfl rfl ?_
   refine x_to rfl ?_
   exact go n A most G σ R H _ _ rfl S h
  by_cases c1:best≥β
  ·refine fin 2 (by decide) (by decide) (.inr (.inl ⟨rfl,hr.2.1 c1⟩)) fun k=>?_
   refine dT c1 ?_
   exact k
  ·by_cases c2:best≤start
   ·refine fin 1 (by decide) (by decide) (.inr (.inr ⟨rfl,hr.1 c2⟩)) fun k=>?_
    refine dF c1 ?_
    refine dT c2 ?_
    exact k
   ·refine fin 3 (by decide) (by decide) (.inl ⟨rfl,hr.2.2 (Int.not_le.1 c2) (Int.not_le.1 c1)⟩) fun k=>?_
    refine dF c1 ?_
    refine dF c2 ?_
    exact k
end Bn
namespace Bn
open Bm
structure Out (G:Gm) (c:Nat) (f:Cf) (σ σ':Sg) (p x d:Nat) (α β:Int) (pv:Bool) (v:Int):Prop where
 ok:SOk G c f σ'
 fr:Fr σ σ'
 lt:σ.nodes < σ'.nodes
 res:Res (G.F c d p x) α β v
 nv:NV p (d+c+1) v
 keep:∀ i,i < p→σ'.lines[i]? = σ.lines[i]?
 row:∃ row,σ'.lines[p]? = some row∧row.length≤d∧(v=(p:Int) - 32000→row=[])∧(pv=true→α < v→v < β→Lead G c d p x row v)
noncomputable def SS (G:Gm) (c:Nat) (f:Cf) (age:Int) (d:Nat):Prop:=∀ (σ:Sg) (p x:Nat) (α β:Int) (pv:Bool),SOk G c f σ→At σ p x→okp x p→x < G.kids.length→p+d≤3→p+d+c≤20→α < β→-32001≤α→β≤32001→p≤σ.lines.length →
 ∃ v σ',Out G c f σ σ' p x d α β pv v∧∀ dl pl:Int,dl=d→pl=p→Runs f G age 496 (3*d+2*c+12) (fun A=>[.ref A.c,.int α,.int β,.int dl,.int pl,.bool pv]) σ σ' (.int v)
structure CO (G:Gm) (c:Nat) (f:Cf) (σ σ':Sg) (p y d:Nat) (α β:Int) (pv:Bool) (v:Int):Prop where
 ok:SOk G c f σ'
 fr:Fr σ σ'
 lt:σ.nodes < σ'.nodes
 res:Res (-G.F c d (p+1) y) α β v
 nv:NV p (d+c+2) v
 lo:(p:Int) - 31998≤v
 keep:∀ i,i < p+1→σ'.lines[i]? = σ.lines[i]?
 row:∃ row,σ'.lines[p+1]? = some row∧row.length≤d∧(v=31999 - (p:Int)→row=[])∧(pv=true→α < v→v < β→Lead G c d (p+1) y row (-v))
theorem x_child (G:Gm) (O:GOk G) (c:Nat) (f:Cf) (age:Int) (d:Nat) (ih:SS G c f age d) (σ:Sg) (p y:Nat) (α β:Int) (pv first:Bool) (I:SOk G c f σ) (T:At σ (p+1) y) (hp:okp y (p+1)) (hN:y < G.kids.length) (h3:p+1+d≤3) (hc:p+1+d+c≤20) (hab:α < β) (hα:-32001≤α) (hβ:β≤32001) (hl:p+1≤σ.lines.length) :
  ∃ v σ',CO G c f σ σ' p y d α β pv v∧Runs f G age 510 (3*d+2*c+13) (fun A=>[.ref A.c,.int α,.int β,.int ((d:Int)+1),.int p,.bool pv,.bool first]) σ σ' (.int v):=by
 have hα':-β < -α:=Int.neg_lt_neg hab
 have hβ':-32001≤-β:=Int.neg_le_neg hβ
 have hα2:-α≤32001:=Int.neg_le_neg hα
 have ed:(d:Int)+1 - 1=d:=Int.add_sub_cancel _ 1
 have C:∀ {σ0 σ1:Sg} {a b v:Int} {pv':Bool},Out G c f σ0 σ1 (p+1) y d (-b) (-a) pv' v→(pv=true→a < -v→-v < b→pv'=true)→CO G c f σ0 σ1 p y d a b pv (-v):=fun {σ0 σ1 a b v pv'} o hpv=>by
  obtain⟨row,r1,r2,r3,r4⟩:=o.row
  have hle:=o.nv.le (by lia)
  exact⟨o.ok,o.fr,o.lt,o.res.neg,o.nv.neg,by lia,o.keep,row,r1,r2,fun e=>r3 (by lia),fun e1 e2 e3=>by rw [Int.neg_neg];exact r4 (hpv e1 e2 e3) (by lia) (by lia)⟩
 cases first with
 | true =>
  obtain⟨v1,σ',o,run⟩:=ih σ (p+1) y (-β) (-α) pv I T hp hN h3 hc hα' hβ' hα2 hl
  refine⟨-v1,σ',C o fun h zz zz=>h,fun N hN A most R H Q X hmo S h2 h3=>?_⟩
  obtain⟨n,rfl⟩:=Runs.sp (k:=1) (Nat.le_trans (Nat.le_add_left 1 (3*d+2*c+12)) hN)
  refine fw_in rfl rfl ?_
  refine bT rfl ?_
  refine bSub ?_
  refine bAdd ?_
  exact run _ _ ed rfl n (Nat.le_of_succ_le_succ hN) A most R H _ _ hmo S h2 h3
 | false =>
  obtain⟨v1,σ1,o,run⟩:=ih σ (p+1) y (-α - 1) (-α) false I T hp hN h3 hc (by lia) (by lia) hα2 hl
  by_cases hin:α < -v1∧-v1 < β
  ·obtain⟨row,r1,-⟩:=o.row
   obtain⟨v2,σ2,o2,run2⟩:=ih σ1 (p+1) y (-β) (-α) pv o.ok (T.fr o.fr) hp hN h3 hc hα' hβ' hα2 (Nat.le_of_lt (len_of r1))
   have hlt2:=o2.lt
   have o3:=C o2 fun h zz zz=>h
   refine⟨-v2,σ2,⟨o3.ok,o.fr.trans o3.fr,Int.lt_trans o.lt hlt2,o3.res,o3.nv,o3.lo,fun i hi=>(o3.keep i hi).trans (o.keep i hi),o3.row⟩,fun N hN A most R H Q X hmo S h2 h3=>?_⟩
   obtain⟨n,rfl⟩:=Runs.sp (k:=1) (Nat.le_trans (Nat.le_add_left 1 (3*d+2*c+12)) hN)
   refine fw_in rfl rfl ?_
   refine bF rfl ?_
   refine bSub ?_
   refine bSub ?_
   refine bAdd ?_
   refine run _ _ ed rfl n (Nat.le_of_succ_le_succ hN) A most R H _ _ hmo S (fun hm1 H1 S1=>?_) (fun u1 u2=>h3 u1 (Int.lt_trans u2 hlt2))
   refine dT hin.1 ?_
   refine dT hin.2 ?_
   refine bSub ?_
   refine bAdd ?_
   exact run2 _ _ ed rfl n (Nat.le_of_succ_le_succ hN) A most R H1 _ _ hm1 S1 h2 h3
  ·have hr:=o.res
   have o3:CO G c f σ σ1 p y d α (α+1) pv (-v1):=C (a:=α) (b:=α+1) (pv':=false) (by rw [Int.neg_add];exact o) fun zz h1 h2=>absurd h2 (Int.not_lt.2 h1)
   refine⟨-v1,σ1,⟨o3.ok,o3.fr,o3.lt,?_,o3.nv,o3.lo,o3.keep,?_⟩,fun N hN A most R H Q X hmo S h2 h3=>?_⟩
   ·have q:=o3.res
    by_cases g:α < -v1
    ·exact⟨fun z=>by lia,fun zz=>q.2.1 g,fun z1 z2=>absurd ⟨z1,z2⟩ hin⟩
    ·exact⟨q.1,fun z=>by lia,fun z=>by lia⟩
   ·obtain⟨row,r1,r2,r3,r4⟩:=o3.row
    exact⟨row,r1,r2,r3,fun zz z1 z2=>absurd ⟨z1,z2⟩ hin⟩
   obtain⟨n,rfl⟩:=Runs.sp (k:=1) (Nat.le_trans (Nat.le_add_left 1 (3*d+2*c+12)) hN)
   refine fw_in rfl rfl ?_
   refine bF rfl ?_
   refine bSub ?_
   refine bSub ?_
   refine bAdd ?_
   refine run _ _ ed rfl n (Nat.le_of_succ_le_succ hN) A most R H _ _ hmo S (fun hm1 H1 S1=>?_) h3
   by_cases h1:α < -v1
   ·refine dT h1 ?_
    refine dF (fun z=>hin ⟨h1,z⟩) ?_
    exact h2 hm1 H1 S1
   ·refine dF h1 ?_
    refine dF h1 ?_
    exact h2 hm1 H1 S1
noncomputable def s_pv:IS:=.ite (.loc 8) (.cons (.expr (.call 176 (.cons (.loc 0) (.cons (.loc 7) (.cons (.loc 17) .nil))))) .nil) .nil
noncomputable def s_rw:IS:=.ite (.and (.not (.loc 18)) (.and (.cmp .isnot (.attr (.loc 0) "history") (.c .none)) (.cmp .isnot (.attr (.loc 0) "killers") (.c .none)))) (.cons (.expr (.call 400 (.cons (.attr (.loc 0) "history") (.cons (.attr (.loc 0) "killers") (.cons (.loc 10) (.cons (.loc 7) (.cons (.loc 6) (.cons (.loc 17) (.cons (.loc 15) .nil))))))))) .nil) .nil
noncomputable def s_cut:IS:=.ite (.cmp .ge (.loc 19) (.loc 5)) (.cons s_rw (.cons .brk .nil)) .nil
noncomputable def sl_tail:ISs:=.cons (.ite (.not (.loc 18)) (.cons (.expr (.meth (.loc 15) "append" (.cons (.loc 17) .nil))) .nil) .nil) (.cons (.asg 17 (.meth (.loc 11) "next" .nil)) .nil)
noncomputable def sl_rest:ISs:=.cons (.asg 16 (.c (.bool false))) (.cons (.ite (.cmp .gt (.loc 19) (.loc 13)) (.cons (.asg 13 (.loc 19)) .nil) .nil) (.cons (.ite (.cmp .gt (.loc 19) (.loc 4)) (.cons (.asg 14 (.loc 17)) (.cons s_pv (.cons s_cut (.cons (.asg 4 (.loc 19)) .nil)))) .nil) sl_tail))
theorem sl_eq:ir_search_moves_loop0=.cons (.asg 18 (.meth (.loc 9) "is_noisy" (.cons (.loc 17) .nil))) (.cons (.expr (.call 148 (.cons (.loc 0) (.cons (.loc 17) .nil)))) (.cons (.asg 19 (.call 510 (.cons (.loc 0) (.cons (.loc 4) (.cons (.loc 5) (.cons (.loc 6) (.cons (.loc 7) (.cons (.loc 8) (.cons (.loc 16) .nil))))))))) (.cons (.expr (.call 155 (.cons (.loc 0) .nil))) sl_rest))):=rfl
noncomputable def Sg.sl (σ:Sg) (pv:Bool) (p m:Nat) (r:List Int):Sg:=if pv=true then { σ with lines:=σ.lines.set p ((m:Int)::r) } else σ
structure Kp where
 p:Nat
 d:Nat
 start:Int
 β:Int
 pv:Bool
 s:Nat
noncomputable def senv (Y:Cl) (K:Kp) (α best:Int) (bm pk ql m:Nat) (first w18 w19:AV):List AV :=
 [.ref Y.A.c,Y.v1,Y.v2,Y.v3,.int α,.int K.β,.int ((K.d:Int)+1),.int K.p,.bool K.pv,.ref Y.A.g,.int K.s,.ref pk,.int K.start,.int best,.int bm,.ref ql,first,.int m,w18,w19]
theorem run_pv {Y:Cl} {f:Cf} {G:Gm} {age:Int} {σ:Sg} {R H:AHeap} {K:Kp} (S:SR Y.A f G age σ R H) {m:Nat} {r:List Int} (hr:σ.lines[K.p+1]? = some r) (hb:r.length < 1000) {n:Nat} {α best:Int} {bm pk ql:Nat} {v16 v18 v19:AV} {Q:SQ} {X:SX}
  (h:∀ H',SR Y.A f G age (σ.sl K.pv K.p m r) R H'→Q .next (senv Y K α best bm pk ql m v16 v18 v19) H') :
  vS theTab (FW theTab (n+1)) s_pv false (senv Y K α best bm pk ql m v16 v18 v19) H Q X:=by
 unfold Sg.sl at h
 cases c:K.pv with
 | false =>
  rw [c] at h
  refine bF c ?_
  exact h H S
 | true =>
  rw [c] at h
  refine bT c ?_
  exact x_set_line S hr hb h
theorem run_rw (G:Gm) (c:Nat) (f:Cf) (σ:Sg) (I:SOk G c f σ) (K:Kp) (m:Nat) (hd:K.d≤2) (hm:1≤m∧m≤2) (hs:K.s≤1) (q:List Nat) (hq:∀ x∈q,1≤x∧x≤2) (nz:Bool) :
  ∃ σ5,SOk G c f σ5∧Fr σ σ5∧σ5.lines=σ.lines∧σ5.nodes=σ.nodes ∧
  ∀ (n:Nat) (Y:Cl) (age:Int) (R H:AHeap) (α best:Int) (bm pk ql:Nat) (v16 v19:AV) (Q:SQ) (X:SX),R ql=some (.list (nats q))→SR Y.A (Y.cf f) G age σ R H →
   (∀ H',SR Y.A (Y.cf f) G age σ5 R H'→Q .next (senv Y K α best bm pk ql m v16 (.bool nz) v19) H') →
   vS theTab (FW theTab (n+3)) s_rw false (senv Y K α best bm pk ql m v16 (.bool nz) v19) H Q X:=by
 have R0:Fr σ σ:=⟨rfl,rfl,Int.le_refl _⟩
 cases nz with
 | true =>
  refine⟨σ,I,R0,rfl,rfl,fun n Y age R H α best bm pk ql v16 v19 Q X hR S h=>?_⟩
  refine bT rfl ?_
  refine bF rfl ?_
  refine bF rfl ?_
  exact h H S
 | false =>
  by_cases kh:f.kh=true
  ·obtain⟨k1,k2,k3⟩:=I.kh kh
   obtain⟨sf',ss',sc',a1,a2,a3,go⟩:=x_reward σ.first σ.second k1 k2 σ.scores k3 K.s K.p (K.d+1) m hs (Nat.succ_le_succ hd) hm q hq
   refine⟨{ σ with first:=sf',second:=ss',scores:=sc' },⟨I.tb,fun zz=>⟨a1,a2,a3⟩,I.ll⟩,⟨rfl,rfl,Int.le_refl _⟩,rfl,rfl,fun n Y age R H α best bm pk ql v16 v19 Q X hR S h=>?_⟩
   have kv:kilV Y.A (Y.cf f)=.ref Y.A.kl:=kilV_t kh
   have hv:hisV Y.A (Y.cf f)=.ref Y.A.hs:=hisV_t kh
   refine bF rfl ?_
   refine bT rfl ?_
   refine chis S ?_
   rw [hv]
   refine bT rfl ?_
   refine ckil S ?_
   rw [kv]
   refine bT rfl ?_
   refine chis S ?_
   rw [hv]
   refine ckil S ?_
   rw [kv]
   exact go n Y.A (Y.cf f) G age σ R H ql _ _ kh rfl rfl rfl hR S h
  ·refine⟨σ,I,R0,rfl,rfl,fun n Y age R H α best bm pk ql v16 v19 Q X hR S h=>?_⟩
   have hv:hisV Y.A (Y.cf f)=.none:=hisV_f kh
   refine bF rfl ?_
   refine bT rfl ?_
   refine chis S ?_
   rw [hv]
   refine bF rfl ?_
   refine bF rfl ?_
   exact h H S
end Bn
namespace Bn
open Bm
noncomputable def sW (n:Nat) (X:SX):Nat→List AV→AHeap→SQ→Prop:=whileL (fun ρ H K=>vE theTab false (FW theTab (n+8) false) (.cmp .ne (.loc 17) (.c (.int 0))) ρ H (fun v H=>truthy v H fun r=>K r H) (fun n H=>X n ρ H)) (fun ρ H K=>vSs theTab (FW theTab (n+8)) ir_search_moves_loop0 false ρ H K X)
noncomputable def Gm.Fs (G:Gm) (c d p x:Nat) (ms:List Nat):List Int:=ms.map fun m=>-G.F c d (p+1) (G.to x m)
structure LP (G:Gm) (c:Nat) (f:Cf) (σ σ':Sg) (K:Kp) (x:Nat) (M α v:Int) (bm:Nat):Prop where
 ok:SOk G c f σ'
 fr:Fr σ σ'
 res:Res M α K.β v
 nv:NV K.p (K.d+c+2) v
 lo:(K.p:Int) - 31998≤v
 bm2:bm≤2
 keep:∀ i,i < K.p→σ'.lines[i]? = σ.lines[i]?
 row:∃ row,σ'.lines[K.p]? = some row∧row.length≤K.d+1∧(K.pv=true→K.start < v→(v < K.β∨v=31999 - (K.p:Int))→Lead G c (K.d+1) K.p x row v)
noncomputable def rowOk (G:Gm) (c x:Nat) (K:Kp) (σ:Sg) (a best:Int):Prop:=∃ row,σ.lines[K.p]? = some row∧row.length≤K.d+1∧(K.pv=true→a < best→Lead G c (K.d+1) K.p x row best)
theorem sl_lines {σ:Sg} {pv:Bool} {p m:Nat} {r:List Int}:(σ.sl pv p m r).lines=if pv=true then σ.lines.set p ((m:Int)::r) else σ.lines:=by unfold Sg.sl;split <;> rfl
theorem sl_nodes {σ:Sg} {pv:Bool} {p m:Nat} {r:List Int}:(σ.sl pv p m r).nodes=σ.nodes:=by unfold Sg.sl;split <;> rfl
theorem SOk.sl {G c f σ} (h:SOk G c f σ) (pv:Bool) (p m:Nat) (r:List Int):SOk G c f (σ.sl pv p m r):=by
 unfold Sg.sl;split
 ·exact⟨h.tb,h.kh,by show(σ.lines.set _ _).length≤4;rw [List.length_set];exact h.ll⟩
 ·exact h
theorem Fr.sl {σ:Sg} (pv:Bool) (p m:Nat) (r:List Int):Fr σ (σ.sl pv p m r):=by
 unfold Sg.sl;split <;> exact⟨rfl,rfl,Int.le_refl _⟩
theorem lAppN {a:Nat} {l:List Nat} {m:Nat} {H:AHeap} {Q:EQ} (h:H a=some (.list (nats l))) (hl:l.length < lim) (k:Q .none (upd H a (.list (nats (l++[m]))))):vListM a "append" [.int m] H Q :=
 lApp h (by rw [nats_len];exact hl) (by rw [nats_snoc];exact k)
structure QL (Y:Cl) (B R:AHeap) (ql:Nat) (qs:List Nat):Prop where
 sub:∀ a o,B a=some o→R a=some o
 sub0:∀ a o,Y.B a=some o→B a=some o
 at_:B ql=some (.list (nats qs))
 no:Y.B ql=none
noncomputable def sE (K:Kp) (v:Int) (bm:Nat) (Y:Cl) (H':AHeap):Prop:=∀ w4 w11 w15 w16 w17 w18 w19,Y.Q .next [.ref Y.A.c,Y.v1,Y.v2,Y.v3,w4,.int K.β,.int ((K.d:Int)+1),.int K.p,.bool K.pv,.ref Y.A.g,.int K.s,w11,.int K.start,.int v,.int bm,w15,w16,w17,w18,w19] H'
noncomputable def GoS (f:Cf) (G:Gm) (age:Int) (c:Nat) (K:Kp) (P:Pk) (m:Nat) (qs:List Nat) (σ σ':Sg) (v:Int) (bm:Nat) (code:Nat→Cl→Nat→Nat→AHeap→Prop):Prop :=
 ∀ (n:Nat),3*K.d+2*c+5≤n→∀ (Y:Cl) (B R H:AHeap) (pk l r lo ql:Nat),(Y.most≤0∨σ.nodes≤Y.most)→SR Y.A (Y.cf f) G age σ R H→(m≠0→PR Y.A (Y.cf f) pk l r lo P B R)→QL Y B R ql qs →
  Y.Ok f G age σ' (sE K v bm Y)→code n Y pk ql H
structure SC (G:Gm) (c:Nat) (f:Cf) (age:Int) (K:Kp) (x:Nat):Prop where
 O:GOk G
 ih:SS G c f age K.d
 hs:K.s≤1
 hok:okp x K.p
 hN:x < G.kids.length
 hpd:K.p+(K.d+1)≤3
 hpc:K.p+(K.d+1)+c≤20
 hdr:¬ (0 < K.p∧G.dr x=true)
 hst:-32001≤K.start
 hβ:K.β≤32001
structure SI (G:Gm) (c:Nat) (f:Cf) (K:Kp) (x k:Nat) (σ:Sg) (td:List Nat) (best α:Int) (bm:Nat) (qs:List Nat):Prop where
 len:td.length≤k
 ok:SOk G c f σ
 at_:At σ K.p x
 lg:∀ y∈td,Lg G x y
 hα:α=max K.start best
 hab:α < K.β
 h1:-32001≤best
 nv:(NV K.p (K.d+c+2) best∧(K.p:Int) - 31998≤best)∨(best = -32001∧td≠[])
 bm2:bm≤2
 hqs:∀ y∈qs,1≤y∧y≤2
 hql:qs.length+k≤100
 row:rowOk G c x K σ K.start best
structure PkOk (m:Nat) (P:Pk):Prop where
 a:m≠0→P.stage≤5
 b:m≠0→P.left.length+P.losing.length < 1000
 c:m≠0→(pend P).length < 1000
noncomputable def loopC (K:Kp) (k m:Nat) (best α:Int) (bm:Nat) (first:Bool):Nat→Cl→Nat→Nat→AHeap→Prop:=fun n Y pk ql H=>∀ w18 w19,sW n Y.X (k+1) (senv Y K α best bm pk ql m (.bool first) w18 w19) H Y.Q
noncomputable def SLp (G:Gm) (c:Nat) (f:Cf) (age:Int) (K:Kp) (x k:Nat):Prop:=∀ (σ:Sg) (m:Nat) (P:Pk) (best α:Int) (bm:Nat) (qs:List Nat) (first:Bool),PkOk m P→SI G c f K x k σ (todo m P) best α bm qs →
 ∃ v bm' σ',LP G c f σ σ' K x (fmx best (G.Fs c K.d K.p x (todo m P))) α v bm'∧GoS f G age c K P m qs σ σ' v bm' (loopC K k m best α bm first)
section
variable {G:Gm} {c:Nat} {f:Cf} {age:Int} {K:Kp} {x k:Nat}
theorem s_fin (C:SC G c f age K x) {first:Bool} {σ:Sg} {P:Pk} {best α:Int} {bm:Nat} {qs:List Nat} (I:SI G c f K x k σ (todo 0 P) best α bm qs) :
  ∃ v bm' σ',LP G c f σ σ' K x (fmx best (G.Fs c K.d K.p x (todo 0 P))) α v bm'∧GoS f G age c K P 0 qs σ σ' v bm' (loopC K k 0 best α bm first):=by
 have hb:=I.nv.elim id fun h=>absurd rfl h.2
 obtain⟨row,r1,r2,r3⟩:=I.row
 refine⟨best,bm,σ,⟨I.ok,⟨rfl,rfl,Int.le_refl _⟩,Res.eq,hb.1,hb.2,I.bm2,fun zz zz=>rfl,row,r1,r2,fun q1 q2 zz=>r3 q1 q2⟩,fun n hn Y B R H pk l r lo ql hmo S Z q E w18 w19=>?_⟩
 refine whI ?_
 refine nF rfl ?_
 exact E.h2 hmo H (S.drop fun a o h=>q.sub a o (q.sub0 a o h)) _ _ _ _ _ _ _
theorem s_tail (C:SC G c f age K x) (IH:SLp G c f age K x k) {m:Nat} {P:Pk} {qs:List Nat} (z:m≠0) (hP:PkOk m P) (hk:(pend P).length≤k) (hm:∀ y∈m::pend P,Lg G x y) (hqs:∀ y∈qs,1≤y∧y≤2) (hql:qs.length+(k+1)≤100) (lg2:1≤m∧m≤2)
  {σ4:Sg} {best' α':Int} {bm':Nat} (J1:SOk G c f σ4) (T4:At σ4 K.p x) (J3:α'=max K.start best') (J4:α' < K.β) (J5:-32001≤best') (J6:NV K.p (K.d+c+2) best'∧(K.p:Int) - 31998≤best') (J7:bm'≤2) (J8:rowOk G c x K σ4 K.start best') :
  ∃ v bm'' σ',LP G c f σ4 σ' K x (fmx best' (G.Fs c K.d K.p x (pend P))) α' v bm''∧GoS f G age c K P m qs σ4 σ' v bm'' fun n Y pk ql H=>∀ w19,vSs theTab (FW theTab (n+8)) sl_tail false (senv Y K α' best' bm' pk ql m (.bool false) (.bool (G.no x m)) w19) H (aft (sW n Y.X (k+1)) Y.Q) Y.X:=by
 obtain⟨m2,P2,b1,b2,nxt⟩:=x_next' G C.O f σ4 x T4.last C.hN (fun h=>⟨(J1.kh h).1,(J1.kh h).2.1⟩) P (hP.a z) (fun y hy=>hm y (.tail _ hy)) (hP.b z) (hP.c z)
 have hlen:(todo m2 P2).length≤k:=by rw [← b2.length_eq];exact hk
 have hm2:∀ y∈todo m2 P2,Lg G x y:=fun y hy=>hm y (.tail _ (b2.mem_iff.2 hy))
 have hP2:PkOk m2 P2:=⟨fun h=>(b1 h).1,fun h=>(b1 h).2.1,fun h=>(b1 h).2.2⟩
 have LPf:∀ {v:Int} {bm'':Nat} {σ':Sg},LP G c f σ4 σ' K x (fmx best' (G.Fs c K.d K.p x (todo m2 P2))) α' v bm''→LP G c f σ4 σ' K x (fmx best' (G.Fs c K.d K.p x (pend P))) α' v bm'':=fun h=>by
  rw [Gm.Fs,fmx_perm (b2.map _)];exact h
 cases nz:G.no x m with
 | true =>
  obtain⟨v,bm'',σ',lp,go⟩:=IH σ4 m2 P2 best' α' bm' qs false hP2 ⟨hlen,J1,T4,hm2,J3,J4,J5,.inl J6,J7,hqs,Nat.le_of_succ_le hql,J8⟩
  refine⟨v,bm'',σ',LPf lp,fun n hn Y B R H pk l r lo ql hmo S Z q E w19=>?_⟩
  have Z:=Z z
  refine bT rfl ?_
  refine bF rfl ?_
  refine mO (S.sub _ _ Z.obj) rfl rfl ?_
  refine nxt (n+3) Y.A Y.most age B R H pk l r lo _ _ S Z fun H' R' l' r' S' Z' hB'=>?_
  refine aN ?_
  exact go n hn Y B R' H' pk l' r' lo ql hmo S' Z' ⟨hB',q.sub0,q.at_,q.no⟩ E _ _
 | false =>
  obtain⟨v,bm'',σ',lp,go⟩:=IH σ4 m2 P2 best' α' bm' (qs++[m]) false hP2 ⟨hlen,J1,T4,hm2,J3,J4,J5,.inl J6,J7,fun y hy=>(List.mem_append.1 hy).elim (hqs y) fun h=>by rw [List.mem_singleton.1 h];exact lg2,by rw [List.length_append,List.length_singleton];lia,J8⟩
  refine⟨v,bm'',σ',LPf lp,fun n hn Y B R H pk l r lo ql hmo S Z q E w19=>?_⟩
  have Z:=Z z
  have hqR:=q.sub _ _ q.at_
  have S2:=S.put (o:=.list (nats (qs++[m]))) (a:=ql) (.inl (by rw [hqR];exact fun q=>nomatch q))
  have Z2:=Z.put (ys:=nats (qs++[m])) q.at_
  refine bF rfl ?_
  refine bT rfl ?_
  refine mL (S.sub _ _ hqR) rfl ?_
  refine lAppN (S.sub _ _ hqR) (Nat.lt_of_lt_of_le (by lia:qs.length < 100) (by decide)) ?_
  refine mO (S2.sub _ _ Z2.obj) rfl rfl ?_
  refine nxt (n+3) Y.A Y.most age _ _ _ pk l r lo _ _ S2 Z2 fun H' R' l' r' S' Z' hB'=>?_
  refine aN ?_
  exact go n hn Y _ R' H' pk l' r' lo ql hmo S' Z' ⟨hB',sub_put q.sub0 q.no,upd_eq,q.no⟩ E _ _
theorem s_rest (C:SC G c f age K x) (IH:SLp G c f age K x k) {m:Nat} {P:Pk} {qs:List Nat} (z:m≠0) (hP:PkOk m P) {σ:Sg} {best α:Int} {bm:Nat} (I:SI G c f K x (k+1) σ (m::pend P) best α bm qs) (lg2:1≤m∧m≤2)
  {w:Int} {σ2:Sg} (co:CO G c f (σ.dn (G.to x m)) σ2 K.p (G.to x m) K.d α K.β K.pv w) :
  ∃ v bm' σ',LP G c f σ σ' K x (fmx best (G.Fs c K.d K.p x (m::pend P))) α v bm'∧σ2.nodes≤σ'.nodes ∧
   GoS f G age c K P m qs (σ2.bk σ) σ' v bm' fun n Y pk ql H=>∀ first,vSs theTab (FW theTab (n+8)) sl_rest false (senv Y K α best bm pk ql m first (.bool (G.no x m)) (.int w)) H (aft (sW n Y.X (k+1)) Y.Q) Y.X:=by
 have lg:=I.lg m (.head _)
 obtain⟨row,r1,r2,r3⟩:=I.row
 have F3:=co.fr.bk
 have I3:=co.ok.bk σ
 have T3:=I.at_.fr F3
 have hab:=I.hab
 have h1:=I.h1
 have hα:=I.hα
 have h0:best≤α:=by rw [hα];exact Int.le_max_right ..
 have hsα:K.start≤α:=by rw [hα];exact Int.le_max_left ..
 have hpd:=C.hpd
 have hpc:=C.hpc
 have hk:=Nat.le_of_succ_le_succ I.len
 obtain⟨row',u1,u2,u3,u4⟩:=co.row
 have kp:∀ i,i < K.p+1→(σ2.bk σ).lines[i]? = σ.lines[i]?:=co.keep
 have u1':(σ2.bk σ).lines[K.p+1]? = some row':=u1
 have hl2:K.p < (σ2.bk σ).lines.length:=Nat.lt_of_succ_lt (len_of u1')
 have vr:=co.res
 have vlo:=co.lo
 have vn:=co.nv
 have flo:=(F_NV C.O c K.d (K.p+1) (G.to x m) (by lia)).ge (by lia)
 have tail:=fun {σ4:Sg} {best' α':Int} {bm':Nat}=>s_tail (σ4:=σ4) (best':=best') (α':=α') (bm':=bm') C IH z hP hk I.lg I.hqs I.hql lg2
 have ldB:K.pv=true→α < w→(w < K.β∨w=31999 - (K.p:Int))→Lead G c (K.d+1) K.p x ((m:Int)::row') w:=by
  intro q1 q2 q3
  by_cases q4:w < K.β
  ·exact⟨m,rfl,lg,C.hdr,by have:=vr.2.2 q2 q4;lia,u4 q1 q2 q4⟩
  ·have q5:w=31999 - (K.p:Int):=q3.elim (fun h=>absurd h q4) id
   have q6:=vr.2.1 (Int.not_lt.1 q4)
   have q7:G.F c K.d (K.p+1) (G.to x m)=((K.p+1:Nat):Int) - 32000:=by lia
   refine⟨m,rfl,lg,C.hdr,by lia,?_⟩
   rw [u3 q5]
   unfold Lead
   exact .inr (.inl (F_low C.O c K.d (K.p+1) _ (by lia) q7))
 have row4:∃ row,((σ2.bk σ).sl K.pv K.p m row').lines[K.p]? = some row∧row.length≤K.d+1∧(K.pv=true→α < w→(w < K.β∨w=31999 - (K.p:Int))→Lead G c (K.d+1) K.p x row w):=by
  rw [sl_lines]
  cases hpv:K.pv with
  | true=>exact⟨(m:Int)::row',by rw [if_pos rfl,List.getElem?_set_self hl2],Nat.succ_le_succ u2,fun zz=>ldB hpv⟩
  | false=>exact⟨row,by rw [if_neg Bool.false_ne_true,kp K.p (Nat.lt_succ_self _)];exact r1,r2,fun q1=>nomatch q1⟩
 have keep4:∀ i,i < K.p→((σ2.bk σ).sl K.pv K.p m row').lines[i]? = σ.lines[i]?:=by
  intro i hi
  rw [sl_lines,← kp i (Nat.lt_succ_of_lt hi)]
  split
  ·rw [List.getElem?_set_ne (Nat.ne_of_gt hi)]
  ·rfl
 have hb:row'.length < 1000:=by lia
 by_cases cA:w≥K.β
 ·
  have g1:w > α:=Int.lt_of_lt_of_le hab cA
  have g2:w > best:=Int.lt_of_le_of_lt h0 g1
  have I4:=I3.sl K.pv K.p m row'
  have F4:=F3.trans (Fr.sl (σ:=σ2.bk σ) K.pv K.p m row')
  obtain⟨σ5,I5,F5,L5,N5,rw5⟩:=run_rw G c f ((σ2.bk σ).sl K.pv K.p m row') I4 K m (by lia) lg2 C.hs qs I.hqs (G.no x m)
  obtain⟨row5,q1,q2,q3⟩:=row4
  have N6:σ5.nodes=σ2.nodes:=N5.trans sl_nodes
  refine⟨w,m,σ5,⟨I5,F4.trans F5,lp_cut h1 h0 vr cA hab,vn,vlo,lg2.2,fun i hi=>by rw [L5];exact keep4 i hi,row5,by rw [L5];exact q1,q2,fun t1 t2 t3=>q3 t1 g1 t3⟩,Int.le_of_eq N6.symm,fun n hn Y B R H pk l r lo ql hmo S Z q E first=>?_⟩
  refine dT g2 ?_
  refine dT g1 ?_
  refine run_pv (Y:=Y) (K:=K) (best:=w) (v16:=.bool false) S u1' hb fun H1 S1=>?_
  refine dT cA ?_
  refine rw5 (n+5) Y age R H1 _ _ _ _ ql _ _ _ _ (q.sub _ _ q.at_) S1 fun H2 S2=>?_
  refine aB ?_
  exact E.h2 (by rw [N6];exact hmo) H2 (S2.drop fun a o h=>q.sub a o (q.sub0 a o h)) _ _ _ _ _ _ _
 ·have cA':=Int.not_le.1 cA
  by_cases cB:w > α
  ·
   have g2:w > best:=Int.lt_of_le_of_lt h0 cB
   have I4:=I3.sl K.pv K.p m row'
   have F4:=F3.trans (Fr.sl (σ:=σ2.bk σ) K.pv K.p m row')
   obtain⟨row5,q1,q2,q3⟩:=row4
   obtain⟨v,bm',σ',lp,go⟩:=tail I4 (I.at_.fr F4) (Int.max_eq_right (Int.le_trans hsα (Int.le_of_lt cB))).symm cA' (Int.le_trans h1 (Int.le_of_lt g2)) ⟨vn,vlo⟩ lg2.2 ⟨row5,q1,q2,fun t1 t2=>q3 t1 cB (.inl cA')⟩
   have hn4:=lp.fr.nodes
   rw [sl_nodes] at hn4
   refine⟨v,bm',σ',⟨lp.ok,F4.trans lp.fr,lp_up h1 h0 vr g2 cA' (by rw [Int.max_eq_right (Int.le_of_lt cB)];exact lp.res),lp.nv,lp.lo,lp.bm2,fun i hi=>(lp.keep i hi).trans (keep4 i hi),lp.row⟩,hn4,fun n hn Y B R H pk l r lo ql hmo S Z q E first=>?_⟩
   refine dT g2 ?_
   refine dT cB ?_
   refine run_pv (Y:=Y) (K:=K) (best:=w) (v16:=.bool false) S u1' hb fun H1 S1=>?_
   refine dF cA ?_
   exact go n hn Y B R H1 pk l r lo ql (by rw [sl_nodes];exact hmo) S1 Z q E _
  ·have cB':=Int.not_lt.1 cB
   by_cases cC:w > best
   ·obtain⟨v,bm',σ',lp,go⟩:=tail I3 T3 (Int.le_antisymm (by lia) (Int.max_le.2 ⟨hsα,cB'⟩)) hab (Int.le_trans h1 (Int.le_of_lt cC)) ⟨vn,vlo⟩ I.bm2 ⟨row,by rw [kp K.p (Nat.lt_succ_self _)];exact r1,r2,fun t1 t2=>absurd t2 (by lia)⟩
    refine⟨v,bm',σ',⟨lp.ok,F3.trans lp.fr,lp_up h1 h0 vr cC cA' (by rw [Int.max_eq_left cB'];exact lp.res),lp.nv,lp.lo,lp.bm2,fun i hi=>(lp.keep i hi).trans (kp i (Nat.lt_succ_of_lt hi)),lp.row⟩,lp.fr.nodes,fun n hn Y B R H pk l r lo ql hmo S Z q E first=>?_⟩
    refine dT cC ?_
    refine dF cB ?_
    exact go n hn Y B R H pk l r lo ql hmo S Z q E _
   ·have hnv':=I.nv.elim id fun h=>by have:=vn.ge (by lia);lia
    obtain⟨v,bm',σ',lp,go⟩:=tail I3 T3 hα hab h1 hnv' I.bm2 ⟨row,by rw [kp K.p (Nat.lt_succ_self _)];exact r1,r2,r3⟩
    refine⟨v,bm',σ',⟨lp.ok,F3.trans lp.fr,lp_same h1 h0 vr (Int.not_lt.1 cC) lp.res,lp.nv,lp.lo,lp.bm2,fun i hi=>(lp.keep i hi).trans (kp i (Nat.lt_succ_of_lt hi)),lp.row⟩,lp.fr.nodes,fun n hn Y B R H pk l r lo ql hmo S Z q E first=>?_⟩
    refine dF cC ?_
    refine dF cB ?_
    exact go n hn Y B R H pk l r lo ql hmo S Z q E _
theorem s_loop (C:SC G c f age K x) (k:Nat):SLp G c f age K x k:=by
 induction k with
 | zero =>
  intro σ m P best α bm qs first hP I
  by_cases z:m=0
  ·subst z;exact s_fin C I
  ·have:=I.len;rw [todo_n z] at this;cases this
 | succ k IH =>
  intro σ m P best α bm qs first hP I
  by_cases z:m=0
  ·subst z;exact s_fin C I
  ·rw [todo_n z] at I ⊢
   have O:=C.O
   have T:=I.at_
   have lg:=I.lg m (.head _)
   have lg2:1≤m∧m≤2:=⟨lg.1,Nat.le_trans lg.2 (kid_le O x)⟩
   obtain⟨y1,y2⟩:=to_lt O lg
   have hpd:=C.hpd
   have hpc:=C.hpc
   obtain⟨row,r1,-⟩:=I.row
   have hα0:-32001≤α:=by rw [I.hα];exact Int.le_trans I.h1 (Int.le_max_right ..)
   have hy:okp (G.to x m) (K.p+1):=⟨fun h=>absurd h (Nat.ne_of_gt y2),fun h=>nomatch h⟩
   obtain⟨w,σ2,co,run⟩:=x_child G O c f age K.d C.ih (σ.dn (G.to x m)) K.p (G.to x m) α K.β K.pv first (I.ok.dn _) (T.dn _) hy y1 (by lia) (by lia) I.hab hα0 C.hβ (len_of r1)
   obtain⟨v,bm',σ',lp,lt',cont⟩:=s_rest C IH z hP I lg2 co
   refine⟨v,bm',σ',lp,fun n hn Y B R H pk l r lo ql hmo S Z q E w18 w19=>?_⟩
   refine whI ?_
   refine nT (Int.ofNat_ne_zero.2 z) ?_
   refine mO S.st.game.1 rfl rfl ?_
   refine g_is_noisy S O T.last C.hN lg.1 lg.2 ?_
   refine x_step_into S O T.last C.hN (by rw [T.len];lia) lg.1 (to_some lg) fun H1 S1=>?_
   refine run (n+8) (Nat.add_le_add_right hn 8) Y.A Y.most R H1 _ _ hmo S1 (fun hm2 H2 S2=>?_) (fun q1 q2 σ'' H'' u1 u2 u3=>?_)
   ·refine x_step_back S2 co.fr.path T.ne fun H3 S3=>?_
    exact cont n hn Y B R H3 pk l r lo ql hm2 S3 Z q E _
   ·exact E.h3 q1 (Int.lt_of_lt_of_le q2 lt') σ'' _ H'' u1 u2 (u3.drop fun a o h=>q.sub a o (q.sub0 a o h))
end
end Bn
namespace Bn
open Bm
theorem PR.new {A f p l r lo P B R} (h:PR A f p l r lo P B R) {a:Nat} {o:AO} (ha:R a=none):PR A f p l r lo P (upd B a o) (upd R a o):=by
 have n1:=ne_nl ha h.obj
 have n2:=ne_nl ha h.left
 have n3:=h.ready.ne ha
 refine⟨upd_some h.obj n1,upd_some h.left n2,h.ready.put (none_tup ha) n3,fun e=>?_,h.lr,(upd_ne n1).trans h.bp,(upd_ne n2).trans h.bl,(upd_ne n3).trans h.br,fun b q e=>?_⟩
 ·obtain⟨h1,h2,h3,h4⟩:=h.losing e
  have n4:=h1.ne ha
  exact⟨h1.put (none_tup ha) n4,(upd_ne n4).trans h2,h3,h4⟩
 ·by_cases n:b=a
  ·subst n;rw [upd_eq] at e ⊢;exact e
  ·rw [upd_ne n] at e ⊢;exact h.sub b q e
theorem run_kc (G:Gm) (c:Nat) (f:Cf) (σ:Sg) (I:SOk G c f σ) (p:Nat):∃ σk,SOk G c f σk∧Fr σ σk∧σk.lines=σ.lines∧σk.nodes=σ.nodes ∧
  ∀ (n:Nat) (A:Ad) (most age:Int) (R H:AHeap) (w1 w2 w3 w4 w5 w6 w8 w9:AV) (r:List AV) (K:SQ) (X:SX),SR A { f with most:=most } G age σ R H →
   (∀ H',SR A { f with most:=most } G age σk R H'→K .next (.ref A.c::w1::w2::w3::w4::w5::w6::.int p::w8::w9::r) H') →
   vS theTab (FW theTab (n+1)) (.ite (.cmp .isnot (.attr (.loc 0) "killers") (.c .none)) (.cons (.expr (.meth (.attr (.loc 0) "killers") "clear" (.cons (.bin .add (.loc 7) (.c (.int 2))) .nil))) .nil) .nil) false (.ref A.c::w1::w2::w3::w4::w5::w6::.int p::w8::w9::r) H K X:=by
 by_cases kh:f.kh=true
 ·obtain⟨k1,k2,k3⟩:=I.kh kh
  have hl:∀ {l:List Int},l.length=3→(if p+2 < 3 then l.set (p+2) 0 else l).length=3:=fun h=>by
   split
   ·rw [List.length_set];exact h
   ·exact h
  refine⟨{ σ with first:=if p+2 < 3 then σ.first.set (p+2) 0 else σ.first,second:=if p+2 < 3 then σ.second.set (p+2) 0 else σ.second },⟨I.tb,fun zz=>⟨hl k1,hl k2,k3⟩,I.ll⟩,⟨rfl,rfl,Int.le_refl _⟩,rfl,rfl,fun n A most age R H w1 w2 w3 w4 w5 w6 w8 w9 r K X S h=>?_⟩
  refine ckil S ?_
  rw [kilV_t (f:={ f with most:=most }) kh]
  refine bT rfl ?_
  refine ckil S ?_
  rw [kilV_t (f:={ f with most:=most }) kh]
  refine mO (S.st.kil kh).1 rfl rfl ?_
  refine bAdd ?_
  exact x_kclear S kh k1 k2 (p:=p+2) h
 ·refine⟨σ,I,⟨rfl,rfl,Int.le_refl _⟩,rfl,rfl,fun n A most age R H w1 w2 w3 w4 w5 w6 w8 w9 r K X S h=>?_⟩
  refine ckil S ?_
  rw [kilV_f (f:={ f with most:=most }) kh]
  refine bF rfl ?_
  exact h H S
theorem drop_put {R:AHeap} {a:Nat} {o:AO} (h:R a=none):∀ b q,R b=some q→upd R a o b=some q:=fun b q e=>upd_some e fun z=>by rw [z,h] at e;cases e
noncomputable def SmR (f:Cf) (G:Gm) (age:Int) (c d:Nat) (σ σ':Sg) (p x:Nat) (α β:Int) (pv:Bool) (tm v:Int):Prop :=
 ∀ (n:Nat),3*d+2*c+5≤n→∀ (A:Ad) (most:Int) (R H:AHeap) (ml:Nat) (Q X:EQ),(most≤0∨σ.nodes≤most)→SR A { f with most:=most } G age σ R H→R ml=some (.list (nats (G.mv x))) →
   ((most≤0∨σ'.nodes≤most)→∀ H',SR A { f with most:=most } G age σ' R H'→Q (.int v) H') →
   (0 < most→most < σ'.nodes→∀ σ'' H',Unw σ''→σ''.nodes=most→SR A { f with most:=most } G age σ'' R H'→X (.int most) H') →
   FW theTab (n+9) false 503 [.ref A.c,.ref ml,.int tm,.int ((x:Int)+1),.int α,.int β,.int ((d:Int)+1),.int p,.bool pv] H Q X
theorem mv_len {G:Gm} (O:GOk G) (x:Nat):(G.mv x).length≤2:=by unfold Gm.mv;rw [List.length_map,List.length_range];exact kid_le O x
theorem F_mv {G:Gm} {c d p x:Nat} (hdr:¬ (0 < p∧G.dr x=true)) (hk:G.kid x≠[]):G.F c (d+1) p x=fmx (-32001) (G.Fs c d p x (G.mv x)):=(if_neg hdr).trans (if_neg hk)
theorem x_search_moves (G:Gm) (O:GOk G) (c:Nat) (f:Cf) (age:Int) (hag:0≤age∧age < 64) (d:Nat) (ih:SS G c f age d) (σ:Sg) (p x:Nat) (α β:Int) (pv:Bool) (tm:Int) (I:SOk G c f σ) (T:At σ p x) (hok:okp x p) (hN:x < G.kids.length) (hpd:p+(d+1)≤3) (hpc:p+(d+1)+c≤20) (hdr:¬ (0 < p∧G.dr x=true)) (hk:G.kid x≠[]) (hst:-32001≤α) (hβ:β≤32001) (hab:α < β) (hl:σ.lines[p]? = some []) :
  ∃ v σ',SOk G c f σ'∧Fr σ σ'∧Res (G.F c (d+1) p x) α β v∧NV p (d+c+2) v∧(p:Int) - 31998≤v∧(∀ i,i < p→σ'.lines[i]? = σ.lines[i]?) ∧
   (∃ row,σ'.lines[p]? = some row∧row.length≤d+1∧(pv=true→α < v→(v < β∨v=31999 - (p:Int))→Lead G c (d+1) p x row v))∧SmR f G age c d σ σ' p x α β pv tm v:=by
 have hmv:=mv_len O x
 obtain⟨σk,Ik,Fk,Lk,Nk,clr⟩:=run_kc G c f σ I p
 have Tk:=T.fr Fk
 obtain⟨m,P,b1,b2,nxt⟩:=x_next' G O f σk x Tk.last hN (fun h=>⟨(Ik.kh h).1,(Ik.kh h).2.1⟩) ⟨tm,p,0,G.mv x,[],[]⟩ (show 0≤5 by decide) (by rw [pend_new];exact fun m hm=>mv_lg.1 hm) (Nat.lt_of_le_of_lt hmv (by decide)) (by rw [pend_new];exact Nat.lt_of_le_of_lt hmv (by decide))
 rw [pend_new] at b2
 have hlen:(todo m P).length≤2:=by rw [← b2.length_eq];exact hmv
 have C:SC G c f age ⟨p,d,α,β,pv,p%2⟩ x:=⟨O,ih,Nat.le_of_lt_succ (Nat.mod_lt _ (by decide)),hok,hN,hpd,hpc,hdr,hst,hβ⟩
 obtain⟨v,bm,σ1,lp,go⟩:=s_loop C 2 σk m P (-32001) α 0 [] true ⟨fun h=>(b1 h).1,fun h=>(b1 h).2.1,fun h=>(b1 h).2.2⟩
  ⟨hlen,Ik,Tk,fun y hy=>mv_lg.1 (b2.mem_iff.2 hy),(Int.max_eq_left hst).symm,hab,Int.le_refl _,.inr ⟨rfl,fun e=>hk (mv_nil.1 (by rw [e] at b2;exact b2.eq_nil))⟩,Nat.zero_le _,fun zz h=>(List.not_mem_nil h).elim,by show 0+2≤100;decide,[],by rw [Lk];exact hl,Nat.zero_le _,fun zz h=>absurd h (Int.not_lt.2 hst)⟩
 have rM:Res (G.F c (d+1) p x) α β v:=by rw [F_mv hdr hk,Gm.Fs,fmx_perm (b2.map _)];exact lp.res
 have nv:=lp.nv
 obtain⟨sl',I2,keep⟩:=x_keep G O c f age hag σ1 p x (d+1) bm v α β lp.ok hok (by lia) (by lia) (Nat.lt_of_lt_of_le hN (Nat.le_trans O.n6 (by decide))) lp.bm2 hab (by rw [Nat.add_right_comm d 1 c];exact nv) rM
 refine⟨v,{ σ1 with slots:=sl' },I2,⟨lp.fr.path.trans Fk.path,lp.fr.made.trans Fk.made,Int.le_trans Fk.nodes lp.fr.nodes⟩,rM,nv,lp.lo,fun i hi=>(lp.keep i hi).trans (by rw [Lk]),lp.row,fun n hn A most R H ml Q X hmo S hml h2 h3=>?_⟩
 refine fw_in rfl rfl ?_
 refine cgame S ?_
 refine clr (n+7) A most age _ H _ _ _ _ _ _ _ _ _ _ _ S fun H1 S1=>?_
 refine mO S1.st.game.1 rfl rfl ?_
 refine g_side S1 (by rw [Tk.len];exact Nat.succ_pos _) ?_
 rw [Tk.len,Nat.add_sub_cancel]
 refine ckil S1 ?_
 refine chis S1 ?_
 intro pk hpk
 refine x_picker_init (n:=n+7) S1 hpk (S1.sub _ _ hml) tm p fun H2 R2 l r lo S2 Z2=>?_
 intro ql hql
 have rq:=S2.none_R hql
 have bq:=sub_none Z2.sub rq
 have S3:=S2.put (o:=.list []) (.inr hql)
 have Z3:=Z2.new (o:=.list []) rq
 refine mO (S3.sub _ _ Z3.obj) rfl rfl ?_
 refine nxt (n+3) A most age _ _ _ pk l r lo _ _ S3 Z3 fun H4 R4 l4 r4 S4 Z4 hB=>?_
 refine⟨3,go n hn ⟨A,most,R,.ref ml,.int tm,.int ((x:Int)+1),_,_⟩ _ R4 H4 pk l4 r4 lo ql (by rw [Nk];exact hmo) S4 Z4 ⟨hB,drop_put bq,upd_eq,bq⟩ ⟨fun q1 H5 S5 w4 w11 w15 w16 w17 w18 w19=>?_,fun q1 q2 σ'' ρ H' u1 u2 u3=>h3 q1 q2 σ'' H' u1 u2 u3⟩ _ _⟩
 refine keep (n+3) A most R H5 _ _ _ rfl S5 fun H6 S6=>?_
 exact h2 q1 H6 S6
noncomputable def Sg.cl (σ:Sg) (p:Nat):Sg:={ σ with lines:=clr σ.lines p }
theorem clr_at {l:List (List Int)} {p:Nat} (h:p≤l.length):(clr l p)[p]? = some []:=by
 unfold clr
 split
 ·exact List.getElem?_set_self (by rw [List.length_append];exact Nat.lt_succ_of_le h)
 ·rename_i c;exact List.getElem?_set_self (Nat.lt_of_not_le c)
theorem clr_ne {l:List (List Int)} {p i:Nat} (h:p≤l.length) (hi:i < p):(clr l p)[i]? = l[i]?:=by
 unfold clr
 rw [List.getElem?_set_ne (Nat.ne_of_gt hi)]
 split
 ·exact List.getElem?_append_left (Nat.lt_of_lt_of_le hi h)
 ·rfl
theorem clr_len {l:List (List Int)} {p:Nat} (h:l.length≤4) (hp:p≤3) (hl:p≤l.length):(clr l p).length≤4:=by
 unfold clr
 rw [List.length_set]
 split
 ·rename_i c;rw [List.length_append];exact Nat.succ_le_succ (Nat.le_trans c hp)
 ·exact h
theorem SOk.cl {G c f σ} (h:SOk G c f σ) {p:Nat} (hp:p≤3) (hl:p≤σ.lines.length):SOk G c f (σ.cl p):=⟨h.tb,h.kh,clr_len h.ll hp hl⟩
noncomputable def s_rest2:ISs:=match ir_search with
 | .cons _ (.cons _ (.cons _ (.cons _ (.cons _ (.cons _ (.cons _ (.cons _ (.cons _ (.cons _ (.cons _ (.cons _ (.cons _ r))))))))))))=>r
 | _=>.nil
noncomputable def s_rest1:ISs:=match ir_search with
 | .cons _ (.cons _ (.cons _ (.cons _ (.cons _ r))))=>r
 | _=>.nil
noncomputable def s_iid:IS:=match s_rest2 with
 | .cons _ (.cons s _)=>s
 | _=>.bad
noncomputable def s_rest3:ISs:=match s_rest2 with
 | .cons _ (.cons _ r)=>r
 | _=>.nil
inductive SEx (G:Gm) (p x:Nat) (α β:Int) (pv:Bool) (o:Option Int):Int→Prop
 | dr (h:Pos p G x):SEx G p x α β pv o 0
 | hi (h:¬ Pos p G x) (h1:α≥31999 - (p:Int)):SEx G p x α β pv o (31999 - (p:Int))
 | lo (h:¬ Pos p G x) (h1:¬ α≥31999 - (p:Int)) (h2:β≤(p:Int) - 32000):SEx G p x α β pv o ((p:Int) - 32000)
 | tb (w:Int) (h:¬ Pos p G x) (h1:¬ α≥31999 - (p:Int)) (h2:¬ β≤(p:Int) - 32000) (h3:pv=false) (h4:o=some w):SEx G p x α β pv o w
 | nk (h:¬ Pos p G x) (h1:¬ α≥31999 - (p:Int)) (h2:¬ β≤(p:Int) - 32000) (h3:pv=false→o=none) (h4:G.kid x=[]):SEx G p x α β pv o (if G.ck x=true then(p:Int) - 32000 else 0)
structure SMv (G:Gm) (p x:Nat) (α β:Int) (pv:Bool) (o:Option Int):Prop where
 h:¬ Pos p G x
 h1:¬ α≥31999 - (p:Int)
 h2:¬ β≤(p:Int) - 32000
 h3:pv=false→o=none
 h4:G.kid x≠[]
theorem s_walk (G:Gm) (O:GOk G) (c:Nat) (f:Cf) (age:Int) (σ σ':Sg) (p x d:Nat) (I:SOk G c f σ) (T:At σ p x) (hN:x < G.kids.length) (hl:p≤σ.lines.length) (hn':σ.nodes < σ'.nodes) (hd3:d < 3) {n:Nat} {A:Ad} {most:Int} {R H:AHeap} {α β:Int} {pv:Bool} {tm:Int} {o:Option Int} {Q X:EQ} (hmo:most≤0∨σ.nodes≤most) (S:SR A { f with most:=most } G age σ R H)
  (look:¬ Pos p G x→¬ α≥31999 - (p:Int)→¬ β≤(p:Int) - 32000→LookR G f (σ.cl p).tk x p (d+1) (max α ((p:Int) - 32000)) (min β (31999 - (p:Int))) tm o)
  (hv:∀ v,SEx G p x α β pv o v→(most≤0∨(σ.cl p).tk.nodes≤most)→∀ H',SR A { f with most:=most } G age (σ.cl p).tk R H'→Q (.int v) H')
  (hm:SMv G p x α β pv o→(most≤0∨(σ.cl p).tk.nodes≤most)→∀ R' H' a,SR A { f with most:=most } G age (σ.cl p).tk R' H'→R' a=some (.list (nats (G.mv x)))→(∀ b q,R b=some q→R' b=some q) →
   FW theTab (n+3) false 503 [.ref A.c,.ref a,.int tm,.int ((x:Int)+1),.int (max α ((p:Int) - 32000)),.int (min β (31999 - (p:Int))),.int ((d:Int)+1),.int p,.bool pv] H' Q X)
  (hx:0 < most→most < σ'.nodes→∀ σ'' H',Unw σ''→σ''.nodes=most→SR A { f with most:=most } G age σ'' R H'→X (.int most) H') :
  FW theTab (n+4) false 496 [.ref A.c,.int α,.int β,.int ((d:Int)+1),.int p,.bool pv] H Q X:=by
 have Tl:(σ.cl p).tk.path.getLast? = some x:=T.last
 have r3:¬ Pos p G x→¬ α≥31999 - (p:Int)→¬ β≤(p:Int) - 32000→(pv=false→o=none)→(most≤0∨(σ.cl p).tk.nodes≤most)→∀ H1,SR A { f with most:=most } G age (σ.cl p).tk R H1 →
   vSs theTab (FW theTab (n+3)) s_rest3 false [.ref A.c,.int (max α ((p:Int) - 32000)),.int (min β (31999 - (p:Int))),.int ((d:Int)+1),.int p,.bool pv,.ref A.g,.int ((p:Int) - 32000),.int (31999 - (p:Int)),.int ((x:Int)+1),.int tm,ov o,.undef] H1 (retQ Q) (callX X):=by
  intro dr c1 c2 c3 hm1 H1 S1
  refine mO S1.st.game.1 rfl rfl ?_
  refine g_moves S1 O Tl hN fun a ha=>?_
  refine tL upd_eq ?_
  by_cases hk:G.kid x=[]
  ·have S2:=S1.new (o:=.list (nats (G.mv x))) ha
   have v:=hv _ (.nk dr c1 c2 c3 hk) hm1
   refine bT (by rw [mv_nil.2 hk];rfl) ?_
   refine mO S2.st.game.1 rfl rfl ?_
   refine g_in_check S2 O Tl hN ?_
   by_cases ck:G.ck x=true
   ·rw [if_pos ck] at v
    refine bT ck ?_
    refine mated_in_ok ?_
    exact v _ S2
   ·rw [if_neg ck] at v
    refine bF (Bool.eq_false_iff.2 ck) ?_
    exact v _ S2
  ·refine bF ?_ ?_
   ·cases hh:G.mv x with
    | nil=>exact absurd (mv_nil.1 hh) hk
    | cons=>rfl
   exact hm ⟨dr,c1,c2,c3,hk⟩ hm1 _ _ a (S1.put (.inr ha)) upd_eq (drop_put (S1.none_R ha))
 have hd4:¬ (d:Int)+1≥4:=by lia
 have r2:¬ Pos p G x→¬ α≥31999 - (p:Int)→¬ β≤(p:Int) - 32000→(most≤0∨(σ.cl p).tk.nodes≤most)→∀ H1,SR A { f with most:=most } G age (σ.cl p).tk R H1 →
   vSs theTab (FW theTab (n+3)) s_rest2 false [.ref A.c,.int (max α ((p:Int) - 32000)),.int (min β (31999 - (p:Int))),.int ((d:Int)+1),.int p,.bool pv,.ref A.g,.int ((p:Int) - 32000),.int (31999 - (p:Int)),.int ((x:Int)+1),.int tm,ov o,.undef] H1 (retQ Q) (callX X):=by
  intro dr c1 c2 hm1 H1 S1
  have st2:pv=true→(∀ v,ov o=v→vSs theTab (FW theTab (n+3)) s_rest3 false [.ref A.c,.int (max α ((p:Int) - 32000)),.int (min β (31999 - (p:Int))),.int ((d:Int)+1),.int p,.bool true,.ref A.g,.int ((p:Int) - 32000),.int (31999 - (p:Int)),.int ((x:Int)+1),.int tm,v,.undef] H1 (retQ Q) (callX X)):=fun h v e=>by
   have:=r3 dr c1 c2 (fun z=>by rw [h] at z;cases z) hm1 H1 S1
   rw [h,e] at this;exact this
  cases hpv:pv with
  | false =>
   cases ho:o with
   | none =>
    have:=r3 dr c1 c2 (fun zz=>ho) hm1 H1 S1
    rw [hpv,ho] at this
    refine bF rfl ?_
    refine bF rfl ?_
    refine bF rfl ?_
    refine bF rfl ?_
    exact this
   | some w =>
    refine bT rfl ?_
    refine bF rfl ?_
    refine bT rfl ?_
    exact hv w (.tb w dr c1 c2 hpv ho) hm1 H1 S1
  | true =>
   have fin:∀ v,ov o=v→vSs theTab (FW theTab (n+3)) (.cons s_iid s_rest3) false [.ref A.c,.int (max α ((p:Int) - 32000)),.int (min β (31999 - (p:Int))),.int ((d:Int)+1),.int p,.bool true,.ref A.g,.int ((p:Int) - 32000),.int (31999 - (p:Int)),.int ((x:Int)+1),.int tm,v,.undef] H1 (retQ Q) (callX X):=fun v e=>by
    refine bT rfl ?_
    by_cases ht:tm=0
    ·refine dT ht ?_
     refine dF hd4 ?_
     refine dF hd4 ?_
     exact st2 hpv v e
    ·refine dF ht ?_
     refine dF ht ?_
     exact st2 hpv v e
   cases ho:o with
   | none =>
    refine bF rfl ?_
    refine bF rfl ?_
    exact fin .none (by rw [ho];rfl)
   | some w =>
    refine bT rfl ?_
    refine bT rfl ?_
    refine bF rfl ?_
    exact fin (.int w) (by rw [ho];rfl)
 have r1:¬ Pos p G x→(most≤0∨(σ.cl p).tk.nodes≤most)→∀ H1,SR A { f with most:=most } G age (σ.cl p).tk R H1 →
   vSs theTab (FW theTab (n+3)) s_rest1 false [.ref A.c,.int α,.int β,.int ((d:Int)+1),.int p,.bool pv,.ref A.g,.undef,.undef,.undef,.undef,.undef,.undef] H1 (retQ Q) (callX X):=by
  intro dr hm1 H1 S1
  have eh:(32000:Int) - ((p:Int)+1)=31999 - (p:Int):=by lia
  refine mated_in_ok ?_
  refine bAdd ?_
  refine x_mate_in ?_
  rw [eh]
  by_cases c1:α≥31999 - (p:Int)
  ·refine dT c1 ?_
   exact hv _ (.hi dr c1) hm1 H1 S1
  refine dF c1 ?_
  by_cases c2:β≤(p:Int) - 32000
  ·refine dT c2 ?_
   exact hv _ (.lo dr c1 c2) hm1 H1 S1
  refine dF c2 ⟨rfl,rfl,?_⟩
  refine mO S1.st.game.1 rfl rfl ?_
  refine g_key S1 Tl ?_
  refine look dr c1 c2 n A most age R H1 _ _ _ rfl S1 fun H2 a S2 hn=>⟨rfl,?_⟩
  refine oT upd_eq ?_
  exact r2 dr c1 c2 hm1 _ (S2.new hn)
 refine fw_in rfl rfl ?_
 refine x_clear_line S hl (Nat.lt_of_le_of_lt I.ll (by decide)) fun H0 S0=>?_
 refine dF (Int.not_le.2 (Int.lt_add_one_of_le (Int.natCast_nonneg d))) ?_
 refine mO S0.dy.ctx rfl rfl ?_
 refine x_tick S0 (fun q1 q2=>?_) (fun q H1 S1=>?_)
 ·have e:σ.nodes=most:=hmo.elim (fun z=>absurd q1 (Int.not_lt.2 z)) fun z=>Int.le_antisymm z q2
  show X (.int σ.nodes) H0
  rw [e]
  exact hx q1 (by rw [← e];exact hn') _ H0 (show Unw (σ.cl p) from⟨T.unw.hd,T.unw.md⟩) e S0
 have hm1:=tick_ok (σ:=σ.cl p) q
 refine cgame S1 ?_
 by_cases hp:0 < p
 ·refine dT (Int.natCast_pos.2 hp) ?_
  refine mO S1.st.game.1 rfl rfl ?_
  refine g_is_draw S1 O Tl hN ?_
  by_cases dr:G.dr x=true
  ·refine bT dr ?_
   exact hv 0 (.dr ⟨hp,dr⟩) hm1 H1 S1
  ·refine bF (Bool.eq_false_iff.2 dr) ?_
   exact r1 (fun z=>dr z.2) hm1 H1 S1
 ·refine dF (fun z=>hp (Int.natCast_pos.1 z)) ?_
  refine dF (fun z=>hp (Int.natCast_pos.1 z)) ?_
  exact r1 (fun z=>hp z.1) hm1 H1 S1
theorem Res.clamp {F α β lo hi v:Int} (h:Res F (max α lo) (min β hi) v) (h1:lo≤F) (h2:F≤hi):Res F α β v:=by
 refine⟨fun z=>?_,fun z=>?_,fun z1 z2=>?_⟩
 ·exact h.1 (Int.le_trans z (Int.le_max_left ..))
 ·exact h.2.1 (Int.le_trans (Int.min_le_left ..) z)
 ·by_cases g1:max α lo < v
  ·by_cases g2:v < min β hi
   ·exact h.2.2 g1 g2
   ·have:=h.2.1 (Int.not_lt.1 g2);lia
  ·have:=h.1 (Int.not_lt.1 g1);lia
end Bn
namespace Bn
open Bm
set_option tactic.hygienic true in
theorem x_search (G:Gm) (O:GOk G) (c:Nat) (f:Cf) (hcf:f.calm=(c:Int)) (age:Int) (hag:0≤age∧age < 64) (d:Nat):SS G c f age d:=by
 induction d with
 | zero =>
  intro σ p x α β pv I T hok hN hpd hpc hab hα hβ hl
  have Ic:=I.cl (p:=p) hpd hl
  have Tc:At (σ.cl p) p x:=⟨T.len,T.last,⟨T.unw.hd,T.unw.md⟩⟩
  obtain⟨v,σ',J1,J2,J3,J4,J5,J6,run⟩:=x_quiesce G O c f age c (σ.cl p) p x α β Ic Tc hN hpc hab hα hβ
  refine⟨v,σ',⟨J1,⟨J2.path,J2.made,J2.nodes⟩,J6,J4,by rw [Nat.zero_add];exact J5,fun i hi=>by rw [J3];exact clr_ne hl hi,[],by rw [J3];exact clr_at hl,Nat.le_refl _,fun zz=>rfl,fun zz zz zz=>by unfold Lead;exact .inl rfl⟩,fun dl pl e1 e2 N hNk A most R H Q X hmo S h2 h3=>?_⟩
  subst e1;subst e2
  obtain⟨n,rfl⟩:=Runs.sp (k:=2) (Nat.le_trans (by decide:2≤3*0+2*0+12) (Nat.le_trans (Nat.add_le_add_right (Nat.add_le_add_left (Nat.zero_le _) _) 12) hNk))
  refine fw_in rfl rfl ?_
  refine x_clear_line S hl (Nat.lt_of_le_of_lt I.ll (by decide)) fun H0 S0=>?_
  refine dT (by decide) ?_
  refine cqd S0 ?_
  exact run p f.calm rfl hcf (n+1) (by lia) A most R H0 _ _ hmo S0 h2 h3
 | succ d ih =>
  intro σ p x α β pv I T hok hN hpd hpc hab hα hβ hl
  have Ic:SOk G c f (σ.cl p).tk:=(I.cl (p:=p) (by lia) hl).tk
  have Tc:At (σ.cl p).tk p x:=⟨T.len,T.last,⟨T.unw.hd,T.unw.md⟩⟩
  have lt:σ.nodes < (σ.cl p).tk.nodes:=Sg.tk_lt (σ:=σ.cl p)
  have Fc:Fr σ (σ.cl p).tk:=⟨rfl,rfl,Int.le_of_lt lt⟩
  have Fn:=F_NV O c (d+1) p x (by lia)
  have flo:=Fn.ge (by lia)
  have fhi:=Fn.le (by lia)
  have hd3:d < 3:=by lia
  have row1:(σ.cl p).tk.lines[p]? = some []:=clr_at hl
  have one:∀ (v tm:Int) (o:Option Int),(∀ v',SEx G p x α β pv o v'→v'=v)→¬ SMv G p x α β pv o→(¬ Pos p G x→¬ α≥31999 - (p:Int)→¬ β≤(p:Int) - 32000→LookR G f (σ.cl p).tk x p (d+1) (max α ((p:Int) - 32000)) (min β (31999 - (p:Int))) tm o) →
    Res (G.F c (d+1) p x) α β v→NV p (d+1+c+1) v→(pv=true→α < v→v < β→Lead G c (d+1) p x [] v) →
    ∃ v σ',Out G c f σ σ' p x (d+1) α β pv v∧∀ dl pl:Int,dl=((d+1:Nat):Int)→pl=p→Runs f G age 496 (3*(d+1)+2*c+12) (fun A=>[.ref A.c,.int α,.int β,.int dl,.int pl,.bool pv]) σ σ' (.int v):=by
   intro v tm o hv hm look hr hn hL
   refine⟨v,(σ.cl p).tk,⟨Ic,Fc,lt,hr,hn,fun i hi=>clr_ne hl hi,[],row1,Nat.zero_le _,fun zz=>rfl,hL⟩,fun dl pl e1 e2 N hNk A most R H Q X hmo S h2 h3=>?_⟩
   subst e1;subst e2
   obtain⟨n,rfl⟩:=Runs.sp (k:=4) (Nat.le_trans (Nat.le_add_left 4 (3*(d+1)+2*c+8)) hNk)
   exact s_walk G O c f age σ _ p x d I T hN hl lt hd3 hmo S look (fun v' e m H S=>hv v' e ▸ h2 m H S) (fun e=>absurd e hm) h3
  have nolook:∀ {P:Prop},(P→False)→P→LookR G f (σ.cl p).tk x p (d+1) (max α ((p:Int) - 32000)) (min β (31999 - (p:Int))) 0 none:=fun h z=>(h z).elim
  by_cases d1:Pos p G x
  ·have e:G.F c (d+1) p x=0:=if_pos d1
   refine one 0 0 none (fun v' h=>?_) (fun h=>h.h d1) (fun z=>absurd d1 z) (by rw [e];exact Res.eq) (by rw [← e];exact Fn) fun zz zz zz=>by unfold Lead;exact .inr (.inr d1)
   cases h <;> first | rfl | (rename_i z _;exact absurd d1 z) | (rename_i z _ _;exact absurd d1 z) | (rename_i z _ _ _ _;exact absurd d1 z)
  by_cases c1:α≥31999 - (p:Int)
  ·refine one _ 0 none (fun v' h=>?_) (fun h=>h.h1 c1) (fun zz z=>absurd c1 z) ⟨fun zz=>fhi,fun z=>by lia,fun z=>by lia⟩ (.inr (.inl ⟨by lia,Int.le_refl _⟩)) fun zz z=>by lia
   cases h with
   | dr z=>exact absurd z d1
   | hi=>rfl
   | lo _ z=>exact absurd c1 z
   | tb _ _ z=>exact absurd c1 z
   | nk _ z=>exact absurd c1 z
  by_cases c2:β≤(p:Int) - 32000
  ·refine one _ 0 none (fun v' h=>?_) (fun h=>h.h2 c2) (fun zz zz z=>absurd c2 z) ⟨fun z=>by lia,fun zz=>flo,fun zz z=>by lia⟩ (.inr (.inr ⟨Int.le_refl _,by lia⟩)) fun zz zz z=>by lia
   cases h with
   | dr z=>exact absurd z d1
   | hi _ z=>exact absurd z c1
   | lo=>rfl
   | tb _ _ _ z=>exact absurd c2 z
   | nk _ _ z=>exact absurd c2 z
  have hab':max α ((p:Int) - 32000) < min β (31999 - (p:Int)):=Int.max_lt.2 ⟨Int.lt_min.2 ⟨hab,Int.not_le.1 c1⟩,Int.lt_min.2 ⟨Int.not_le.1 c2,by lia⟩⟩
  obtain⟨tm,o,ho,look⟩:=x_look_up G O c f (σ.cl p).tk p x (d+1) (max α ((p:Int) - 32000)) (min β (31999 - (p:Int))) hab' Ic hok (by lia) (by lia)
  by_cases c3:∃ w,o=some w∧pv=false
  ·
   obtain⟨w,o1,hp⟩:=c3
   obtain⟨g1,g2⟩:=ho w o1
   refine one w tm o (fun v' h=>?_) (fun h=>by have:=h.h3 hp;rw [o1] at this;cases this) (fun zz zz zz=>look) (g1.clamp flo fhi) g2 fun z=>by rw [hp] at z;cases z
   cases h with
   | dr z=>exact absurd z d1
   | hi _ z=>exact absurd z c1
   | lo _ _ z=>exact absurd z c2
   | tb w' _ _ _ _ z=>rw [o1] at z;cases z;rfl
   | nk _ _ _ z=>have:=z hp;rw [o1] at this;cases this
  have c4:pv=false→o=none:=fun z=>by
   cases h:o with
   | none=>rfl
   | some w=>exact absurd ⟨w,h,z⟩ c3
  by_cases hk:G.kid x=[]
  ·
   have e:G.F c (d+1) p x=if G.ck x=true then(p:Int) - 32000 else 0:=(if_neg d1).trans (if_pos hk)
   refine one _ tm o (fun v' h=>?_) (fun h=>h.h4 hk) (fun zz zz zz=>look) (by rw [e];exact Res.eq) (by rw [← e];exact Fn) fun zz zz zz=>by unfold Lead;exact .inr (.inl hk)
   cases h with
   | dr z=>exact absurd z d1
   | hi _ z=>exact absurd z c1
   | lo _ _ z=>exact absurd z c2
   | tb w' _ _ _ y z=>exact absurd ⟨_,z,y⟩ c3
   | nk=>rfl
  ·obtain⟨v,σ',J1,J2,J3,J4,J5,J6,⟨row,r1,r2,r3⟩,go⟩:=x_search_moves G O c f age hag d ih (σ.cl p).tk p x (max α ((p:Int) - 32000)) (min β (31999 - (p:Int))) pv tm Ic Tc hok hN hpd hpc d1 hk (Int.le_trans hα (Int.le_max_left ..)) (Int.le_trans (Int.min_le_left ..) hβ) hab' row1
   have hle:=J4.le (by lia)
   have hnn:σ.nodes < σ'.nodes:=Int.lt_of_lt_of_le lt J2.nodes
   refine⟨v,σ',⟨J1,Fc.trans J2,hnn,J3.clamp flo fhi,by rw [Nat.add_right_comm d 1 c];exact J4,fun i hi=>(J6 i hi).trans (clr_ne hl hi),row,r1,r2,fun z=>by lia,fun z1 z2 z3=>r3 z1 (Int.max_lt.2 ⟨z2,by lia⟩) (by lia)⟩,fun dl pl e1 e2 N hNk A most R H Q X hmo S h2 h3=>?_⟩
   subst e1;subst e2
   obtain⟨n,rfl⟩:=Runs.sp (k:=10) (Nat.le_trans (Nat.le_add_left 10 (3*(d+1)+2*c+2)) hNk)
   refine s_walk (n:=n+6) G O c f age σ σ' p x d I T hN hl hnn hd3 hmo S (fun zz zz zz=>look) (fun v' h=>?_) (fun zz m R' H' a S' ha hR=>?_) h3
   ·cases h with
    | dr z=>exact absurd z d1
    | hi _ z=>exact absurd z c1
    | lo _ _ z=>exact absurd z c2
    | tb w' _ _ _ y z=>exact absurd ⟨_,z,y⟩ c3
    | nk _ _ _ _ z=>exact absurd z hk
   ·exact go n (by lia) A most R' H' a Q X m S' ha (fun q1 H'' S''=>h2 q1 H'' (S''.drop hR)) (fun q1 q2 σ'' H'' u1 u2 u3=>h3 q1 q2 σ'' H'' u1 u2 (u3.drop hR))
end Bn
namespace Bn
open Bm
noncomputable def lowE (v dl:Int):Int:=if dl > 1000 then -32001 else max (v - dl) (-32001)
noncomputable def uppE (v dl:Int):Int:=if dl > 1000 then 32001 else min (v+dl) 32001
theorem x_lower {v dl:Int} {n:Nat} {H:AHeap} {Q X:EQ} (h:Q (.int (lowE v dl)) H):FW theTab (n+1) false 559 [.int v,.int dl] H Q X:=by
 unfold lowE at h
 refine fw_in rfl rfl ?_
 by_cases c:dl > 1000
 ·rw [if_pos c] at h
  refine dT c ?_
  exact h
 ·rw [if_neg c] at h
  refine dF c ?_
  exact bSub ⟨rfl,h⟩
theorem x_upper {v dl:Int} {n:Nat} {H:AHeap} {Q X:EQ} (h:Q (.int (uppE v dl)) H):FW theTab (n+1) false 566 [.int v,.int dl] H Q X:=by
 unfold uppE at h
 refine fw_in rfl rfl ?_
 by_cases c:dl > 1000
 ·rw [if_pos c] at h
  refine dT c ?_
  exact h
 ·rw [if_neg c] at h
  refine dF c ?_
  exact bAdd ⟨rfl,h⟩
noncomputable def mu (dl α β:Int):Nat:=(if dl≤1000 then(1004 - dl).toNat else 0)+(if α = -32001 then 0 else 2)+(if β=32001 then 0 else 1)
theorem mu_b (α β:Int):(if α = -32001 then 0 else 2)+(if β=32001 then 0 else 1)≤(3:Nat):=by split <;> split <;> lia
theorem mu_low {dl α β v:Int} (h1:-32001≤α) (h5:1≤dl) (c1:v≤α) (vlo:((0:Nat):Int) - 32000≤v):mu (dl+(dl / 4+5)) (lowE v dl) ((α+β) / 2) < mu dl α β:=by
 have b1:=mu_b (lowE v dl) ((α+β) / 2)
 have a0:α≠-32001:=by lia
 by_cases c:dl > 1000
 ·have e:lowE v dl = -32001:=by unfold lowE;rw [if_pos c]
  unfold mu
  rw [e,if_neg (show ¬ (dl+(dl / 4+5)≤1000) by lia),if_neg (show ¬ (dl≤1000) by lia),if_neg a0,if_pos rfl]
  split <;> split <;> lia
 ·unfold mu
  rw [if_pos (show dl≤1000 by lia),if_neg a0]
  by_cases c2:dl+(dl / 4+5)≤1000
  ·rw [if_pos c2];lia
  ·rw [if_neg c2];lia
theorem mu_upp {dl α β v:Int} (h3:β≤32001) (h5:1≤dl) (c1:β≤v) (vhi:v≤31999 - ((0:Nat):Int)):mu (dl+(dl / 4+5)) α (uppE v dl) < mu dl α β:=by
 have b1:=mu_b α (uppE v dl)
 have a0:β≠32001:=by lia
 by_cases c:dl > 1000
 ·have e:uppE v dl=32001:=by unfold uppE;rw [if_pos c]
  unfold mu
  rw [e,if_neg (show ¬ (dl+(dl / 4+5)≤1000) by lia),if_neg (show ¬ (dl≤1000) by lia),if_neg a0,if_pos rfl]
  lia
 ·have b2:=mu_b α β
  unfold mu
  rw [if_pos (show dl≤1000 by lia)]
  by_cases c2:dl+(dl / 4+5)≤1000
  ·rw [if_pos c2];lia
  ·rw [if_neg c2];lia
noncomputable def aW (n:Nat) (X:SX):Nat→List AV→AHeap→SQ→Prop:=whileL (fun ρ H K=>vE theTab false (FW theTab (n+2) false) (.or (.cmp .le (.loc 6) (.loc 4)) (.cmp .ge (.loc 6) (.loc 5))) ρ H (fun v H=>truthy v H fun r=>K r H) (fun n H=>X n ρ H)) (fun ρ H K=>vSs theTab (FW theTab (n+2)) ir_aspirate_loop0 false ρ H K X)
noncomputable def GoA (f:Cf) (G:Gm) (age:Int) (k i:Nat) (w:Int) (σ σ':Sg) (code:Nat→Cl→AHeap→Prop):Prop :=
 ∀ (n:Nat),k≤n→∀ (Y:Cl) (H:AHeap),(Y.most≤0∨σ.nodes≤Y.most)→SR Y.A (Y.cf f) G age σ Y.B H→Y.Ok f G age σ' (fun H'=>∀ ρ,lget ρ i=.int w→Y.Q .next ρ H')→code n Y H
theorem lowE_ge {v dl:Int}:-32001≤lowE v dl:=by
 unfold lowE;split
 ·exact Int.le_refl _
 ·exact Int.le_max_right ..
theorem uppE_le {v dl:Int}:uppE v dl≤32001:=by
 unfold uppE;split
 ·exact Int.le_refl _
 ·exact Int.min_le_right ..
theorem lowE_lt {v dl a:Int} (h:-32001 < a) (h2:v - dl < a):lowE v dl < a:=by
 unfold lowE;split
 ·exact h
 ·exact Int.max_lt.2 ⟨h2,h⟩
theorem uppE_gt {v dl a:Int} (h:a < 32001) (h2:a < v+dl):a < uppE v dl:=by
 unfold uppE;split
 ·exact h
 ·exact Int.lt_min.2 ⟨h2,h⟩
structure AI (G:Gm) (c d:Nat) (f:Cf) (K:Nat) (σ:Sg) (α β dl v:Int):Prop where
 mu:mu dl α β≤K
 ok:SOk G c f σ
 at_:At σ 0 0
 h1:-32001≤α
 h2:α < β
 h3:β≤32001
 h5:1≤dl
 res:Res (G.F c d 0 0) α β v
 nv:NV 0 (d+c+1) v
 row:∃ row,σ.lines[0]? = some row∧(α < v→v < β→Lead G c d 0 0 row v)
noncomputable def asp_tail:ISs:=match ir_aspirate_loop0 with
 | .cons _ r=>r
 | _=>.nil
theorem asp_loop (G:Gm) (O:GOk G) (c:Nat) (f:Cf) (age:Int) (d:Nat) (hS:SS G c f age d) (hd:d≤3) (hdc:d+c≤20) (K:Nat):∀ (σ:Sg) (α β dl v:Int),AI G c d f K σ α β dl v →
  ∃ σ',SOk G c f σ'∧Fr σ σ'∧(∃ row,σ'.lines[0]? = some row∧Lead G c d 0 0 row (G.F c d 0 0)) ∧
   GoA f G age (3*d+2*c+12) 6 (G.F c d 0 0) σ σ' fun n Y H=>aW n Y.X (K+1) [.ref Y.A.c,.int d,Y.v1,.int dl,.int α,.int β,.int v] H Y.Q:=by
 have out:∀ (K:Nat) (σ:Sg) (α β dl v:Int),AI G c d f K σ α β dl v→α < v→v < β→∃ σ',SOk G c f σ'∧Fr σ σ'∧(∃ row,σ'.lines[0]? = some row∧Lead G c d 0 0 row (G.F c d 0 0)) ∧
   GoA f G age (3*d+2*c+12) 6 (G.F c d 0 0) σ σ' fun n Y H=>aW n Y.X (K+1) [.ref Y.A.c,.int d,Y.v1,.int dl,.int α,.int β,.int v] H Y.Q:=fun K σ α β dl v I e1 e2=>by
  have e:v=G.F c d 0 0:=I.res.2.2 e1 e2
  obtain⟨row,r1,r2⟩:=I.row
  refine⟨σ,I.ok,⟨rfl,rfl,Int.le_refl _⟩,⟨row,r1,e ▸ r2 e1 e2⟩,fun n hn Y H hmo S E=>?_⟩
  refine whI ?_
  refine dF (Int.not_le.2 e1) ?_
  refine dF (Int.not_le.2 e2) ?_
  exact E.h2 hmo H S _ (congrArg AV.int e)
 have new:∀ {σ:Sg} {α β dl v:Int} {K:Nat},AI G c d f K σ α β dl v→¬ (α < v∧v < β)→∃ α' β':Int,((v≤α∧β'=(α+β) / 2∧α'=lowE v dl)∨(¬ v≤α∧v≥β∧α'=α∧β'=uppE v dl))∧-32001≤α'∧α' < β'∧β'≤32001∧mu (dl+(dl / 4+5)) α' β' < mu dl α β:=by
  intro σ α β dl v K I ex
  have h1:=I.h1;have h2:=I.h2;have h3:=I.h3;have h5:=I.h5
  have vlo:=I.nv.ge (by lia)
  have vhi:=I.nv.le (by lia)
  by_cases c1:v≤α
  ·exact⟨lowE v dl,(α+β) / 2,.inl ⟨c1,rfl,rfl⟩,lowE_ge,lowE_lt (by lia) (by lia),by lia,mu_low h1 h5 c1 vlo⟩
  ·have c2:v≥β:=Int.not_lt.1 fun z=>ex ⟨Int.not_le.1 c1,z⟩
   exact⟨α,uppE v dl,.inr ⟨c1,c2,rfl,rfl⟩,h1,uppE_gt (by lia) (by lia),uppE_le,mu_upp h3 h5 c2 vhi⟩
 induction K with
 | zero =>
  intro σ α β dl v I
  by_cases ex:α < v∧v < β
  ·exact out 0 σ α β dl v I ex.1 ex.2
  ·obtain⟨_,_,_,_,_,_,w⟩:=new I ex
   exact absurd (Nat.lt_of_lt_of_le w I.mu) (Nat.not_lt_zero _)
 | succ K ih =>
  intro σ α β dl v I
  by_cases ex:α < v∧v < β
  ·exact out _ σ α β dl v I ex.1 ex.2
  ·obtain⟨α',β',hw,w1,w2,w3,w4⟩:=new I ex
   have h5:=I.h5
   obtain⟨v',σ1,o,run⟩:=hS σ 0 0 α' β' true I.ok I.at_ Iff.rfl O.n0 (by rw [Nat.zero_add];exact hd) (by rw [Nat.zero_add];exact hdc) w2 w1 w3 (Nat.zero_le _)
   obtain⟨row,r1,r2,r3,r4⟩:=o.row
   obtain⟨σ',J1,J2,J3,go⟩:=ih σ1 α' β' (dl+(dl / 4+5)) v' ⟨Nat.le_of_lt_succ (Nat.lt_of_lt_of_le w4 I.mu),o.ok,I.at_.fr o.fr,w1,w2,w3,by lia,o.res,o.nv,row,r1,r4 rfl⟩
   refine⟨σ',J1,o.fr.trans J2,J3,fun n hn Y H hmo S E=>?_⟩
   have fin:∀ v6:AV,vSs theTab (FW theTab (n+2)) asp_tail false [.ref Y.A.c,.int d,Y.v1,.int dl,.int α',.int β',v6] H (aft (aW n Y.X (K+1)) Y.Q) Y.X:=by
    intro v6
    refine bFdiv (by decide) (by decide) ?_
    refine bAdd ?_
    refine bAdd ?_
    refine run d 0 rfl rfl (n+2) (Nat.le_add_right_of_le hn) Y.A Y.most Y.B H _ _ hmo S (fun hm1 H1 S1=>?_) (fun u1 u2 σ'' H'' u3 u4 u5=>E.h3 u1 (Int.lt_of_lt_of_le u2 J2.nodes) σ'' _ H'' u3 u4 u5)
    refine aN ?_
    exact go n hn Y H1 hm1 S1 E
   refine whI ?_
   rcases hw with ⟨c1,e1,e2⟩ | ⟨c1,c3,e1,e2⟩
   ·rw [e1,e2] at fin
    refine dT c1 ?_
    refine dT c1 ?_
    refine dT c1 ?_
    refine bAdd ?_
    refine bFdiv (by decide) (by decide) ?_
    refine x_lower ?_
    exact fin _
   ·rw [e1,e2] at fin
    refine dF c1 ?_
    refine dT c3 ?_
    refine dF c1 ?_
    refine x_upper ?_
    exact fin _
theorem cl_rng (g:Int):-32000≤max (-32000) (min 32000 g)∧max (-32000) (min 32000 g)≤32000:=⟨Int.le_max_left ..,Int.max_le.2 ⟨by decide,Int.min_le_left ..⟩⟩
theorem x_aspirate (G:Gm) (O:GOk G) (c:Nat) (f:Cf) (age:Int) (d:Nat) (hS:SS G c f age d) (hd:d≤3) (hdc:d+c≤20) (σ:Sg) (g0 dl0:Int) (I:SOk G c f σ) (T:At σ 0 0) :
  ∃ σ',SOk G c f σ'∧Fr σ σ'∧σ.nodes < σ'.nodes∧(∃ row,σ'.lines[0]? = some row∧Lead G c d 0 0 row (G.F c d 0 0)) ∧
   ∀ dz:Int,dz=d→Runs f G age 573 (3*d+2*c+15) (fun A=>[.ref A.c,.int dz,.int g0,.int dl0]) σ σ' (.int (G.F c d 0 0)):=by
 obtain⟨g,hg⟩:∃ g:Int,max (-32000) (min 32000 g0)=g:=⟨_,rfl⟩
 obtain⟨dl,hdl⟩:∃ dl:Int,max 1 dl0=dl:=⟨_,rfl⟩
 have gr:=cl_rng g0
 rw [hg] at gr
 have d1:1≤dl:=hdl ▸ Int.le_max_left ..
 have a2:lowE g dl < uppE g dl:=uppE_gt (lowE_lt (by decide) (by lia)) (lowE_lt (by lia) (by lia))
 obtain⟨v,σ1,o,run⟩:=hS σ 0 0 (lowE g dl) (uppE g dl) true I T Iff.rfl O.n0 (by rw [Nat.zero_add];exact hd) (by rw [Nat.zero_add];exact hdc) a2 lowE_ge uppE_le (Nat.zero_le _)
 obtain⟨row,r1,r2,r3,r4⟩:=o.row
 obtain⟨σ',J1,J2,J3,go⟩:=asp_loop G O c f age d hS hd hdc (mu dl (lowE g dl) (uppE g dl)) σ1 (lowE g dl) (uppE g dl) dl v ⟨Nat.le_refl _,o.ok,T.fr o.fr,lowE_ge,a2,uppE_le,d1,o.res,o.nv,row,r1,r4 rfl⟩
 refine⟨σ',J1,o.fr.trans J2,Int.lt_of_lt_of_le o.lt J2.nodes,J3,fun dz ez N hN A most R H Q X hmo S q2 q3=>?_⟩
 subst ez
 obtain⟨n,rfl⟩:=Runs.sp (k:=3) (Nat.le_trans (Nat.le_add_left 3 (3*d+2*c+12)) hN)
 have hn:3*d+2*c+12≤n:=Nat.le_of_add_le_add_right (b:=3) hN
 refine fw_in rfl rfl ?_
 subst hg;subst hdl
 refine⟨rfl,rfl,rfl,?_⟩
 refine x_lower ?_
 refine x_upper ?_
 refine run d 0 rfl rfl (n+2) (Nat.le_add_right_of_le hn) A most R H _ _ hmo S (fun hm1 H1 S1=>?_) (fun u1 u2 σ'' H'' u3 u4 u5=>q3 u1 (Int.lt_of_lt_of_le u2 J2.nodes) σ'' H'' u3 u4 u5)
 refine⟨_,go n hn ⟨A,most,R,.int (max (-32000) (min 32000 g0)),.none,.none,_,_⟩ H1 hm1 S1 ⟨fun hm2 H2 S2 ρ hρ=>?_,fun u1 u2 σ'' ρ H'' u3 u4 u5=>q3 u1 u2 σ'' H'' u3 u4 u5⟩⟩
 exact rLoc (n:=n+2) (hd:=false) (r:=.nil) (X:=callX X) hρ (q2 hm2 H2 S2)
noncomputable def mW (n:Nat) (X:SX):Nat→List AV→AHeap→SQ→Prop:=whileL (fun ρ H K=>vE theTab false (FW theTab (n+1) false) (.cmp .lt (.loc 4) (.loc 5)) ρ H (fun v H=>truthy v H fun r=>K r H) (fun n H=>X n ρ H)) (fun ρ H K=>vSs theTab (FW theTab (n+1)) ir_mtdf_loop0 false ρ H K X)
noncomputable def mt_tail:ISs:=match ir_mtdf_loop0 with
 | .cons _ (.cons _ r)=>r
 | _=>.nil
structure MI (G:Gm) (c d:Nat) (f:Cf) (K:Nat) (σ:Sg) (v lo hi:Int):Prop where
 k:(hi - lo).toNat≤K
 ok:SOk G c f σ
 at_:At σ 0 0
 h1:-32001≤lo
 h2:hi≤32001
 h3:lo≤v
 h4:v≤hi
 h5:lo≤G.F c d 0 0
 h6:G.F c d 0 0≤hi
theorem mtdf_loop (G:Gm) (O:GOk G) (c:Nat) (f:Cf) (age:Int) (d:Nat) (hS:SS G c f age d) (hd:d≤3) (hdc:d+c≤20) (K:Nat):∀ (σ:Sg) (v lo hi:Int),MI G c d f K σ v lo hi →
  ∃ σ',SOk G c f σ'∧Fr σ σ'∧GoA f G age (3*d+2*c+12) 3 (G.F c d 0 0) σ σ' fun n Y H=>∀ b,mW n Y.X (K+1) [.ref Y.A.c,.int d,Y.v1,.int v,.int lo,.int hi,b] H Y.Q:=by
 have out:∀ (K:Nat) (σ:Sg) (v lo hi:Int),MI G c d f K σ v lo hi→¬ lo < hi→∃ σ',SOk G c f σ'∧Fr σ σ'∧GoA f G age (3*d+2*c+12) 3 (G.F c d 0 0) σ σ' fun n Y H=>∀ b,mW n Y.X (K+1) [.ref Y.A.c,.int d,Y.v1,.int v,.int lo,.int hi,b] H Y.Q:=fun K σ v lo hi I ex=>by
  have e:v=G.F c d 0 0:=Int.le_antisymm (Int.le_trans I.h4 (Int.le_trans (Int.not_lt.1 ex) I.h5)) (Int.le_trans I.h6 (Int.le_trans (Int.not_lt.1 ex) I.h3))
  refine⟨σ,I.ok,⟨rfl,rfl,Int.le_refl _⟩,fun n hn Y H hmo S E b=>?_⟩
  refine whI ?_
  refine dF ex ?_
  exact E.h2 hmo H S _ (congrArg AV.int e)
 induction K with
 | zero =>
  intro σ v lo hi I
  have:=I.k
  exact out 0 σ v lo hi I (by lia)
 | succ K ih =>
  intro σ v lo hi I
  by_cases ex:lo < hi
  ·obtain⟨b,hb⟩:∃ b:Int,max v (lo+1)=b:=⟨_,rfl⟩
   have h1:=I.h1;have h2:=I.h2;have h4:=I.h4;have hk:=I.k
   have b1:lo+1≤b:=hb ▸ Int.le_max_right ..
   have b2:b≤hi:=hb ▸ Int.max_le.2 ⟨h4,ex⟩
   obtain⟨v',σ1,o,run⟩:=hS σ 0 0 (b - 1) b false I.ok I.at_ Iff.rfl O.n0 (by rw [Nat.zero_add];exact hd) (by rw [Nat.zero_add];exact hdc) (by lia) (by lia) (Int.le_trans b2 h2) (Nat.zero_le _)
   have hr:=o.res
   have lo':=o.nv.ge (by lia)
   have hi':=o.nv.le (by lia)
   have turn:∀ {lo2 hi2:Int} {σ':Sg},Fr σ1 σ'→(GoA f G age (3*d+2*c+12) 3 (G.F c d 0 0) σ1 σ' fun n Y H=>∀ b,mW n Y.X (K+1) [.ref Y.A.c,.int d,Y.v1,.int v',.int lo2,.int hi2,b] H Y.Q) →
     (∀ {n:Nat} {Y:Cl} {H:AHeap},vSs theTab (FW theTab (n+1)) .nil false [.ref Y.A.c,.int d,Y.v1,.int v',.int lo2,.int hi2,.int b] H (aft (mW n Y.X (K+1)) Y.Q) Y.X→vSs theTab (FW theTab (n+1)) mt_tail false [.ref Y.A.c,.int d,Y.v1,.int v',.int lo,.int hi,.int b] H (aft (mW n Y.X (K+1)) Y.Q) Y.X) →
     GoA f G age (3*d+2*c+12) 3 (G.F c d 0 0) σ σ' fun n Y H=>∀ b,mW n Y.X (K+1+1) [.ref Y.A.c,.int d,Y.v1,.int v,.int lo,.int hi,b] H Y.Q:=by
    intro lo2 hi2 σ' J2 go st n hn Y H hmo S E b0
    refine whI ?_
    refine dT ex ?_
    subst hb
    refine bAdd ⟨rfl,?_⟩
    refine bSub ?_
    refine run d 0 rfl rfl (n+1) (Nat.le_add_right_of_le hn) Y.A Y.most Y.B H _ _ hmo S (fun hm1 H1 S1=>?_) (fun u1 u2 σ'' H'' u3 u4 u5=>E.h3 u1 (Int.lt_of_lt_of_le u2 J2.nodes) σ'' _ H'' u3 u4 u5)
    refine st ?_
    refine aN ?_
    exact go n hn Y H1 hm1 S1 E _
   by_cases c1:v' < b
   ·have q:=hr.1 (Int.le_sub_one_of_lt c1)
    obtain⟨σ',J1,J2,go⟩:=ih σ1 v' lo v' ⟨by lia,o.ok,I.at_.fr o.fr,h1,by lia,Int.le_trans I.h5 q,Int.le_refl _,I.h5,q⟩
    refine⟨σ',J1,o.fr.trans J2,turn J2 go fun k=>?_⟩
    refine dT c1 ?_
    exact k
   ·have q:=hr.2.1 (Int.not_lt.1 c1)
    obtain⟨σ',J1,J2,go⟩:=ih σ1 v' v' hi ⟨by lia,o.ok,I.at_.fr o.fr,by lia,h2,Int.le_refl _,Int.le_trans q I.h6,q,I.h6⟩
    refine⟨σ',J1,o.fr.trans J2,turn J2 go fun k=>?_⟩
    refine dF c1 ?_
    exact k
  ·exact out _ σ v lo hi I ex
theorem x_mtdf (G:Gm) (O:GOk G) (c:Nat) (f:Cf) (age:Int) (d:Nat) (hS:SS G c f age d) (hd:d≤3) (hdc:d+c≤20) (σ:Sg) (g0:Int) (I:SOk G c f σ) (T:At σ 0 0) :
  ∃ σ',SOk G c f σ'∧Fr σ σ'∧∀ dz:Int,dz=d→Runs f G age 594 (3*d+2*c+15) (fun A=>[.ref A.c,.int dz,.int g0]) σ σ' (.int (G.F c d 0 0)):=by
 have FN:=F_NV O c d 0 0 (by lia)
 have flo:=FN.ge (by lia)
 have fhi:=FN.le (by lia)
 have gr:=cl_rng g0
 obtain⟨σ',J1,J2,go⟩:=mtdf_loop G O c f age d hS hd hdc ((32001:Int) - (-32001)).toNat σ (max (-32000) (min 32000 g0)) (-32001) 32001 ⟨Nat.le_refl _,I,T,Int.le_refl _,Int.le_refl _,Int.le_trans (by decide) gr.1,Int.le_trans gr.2 (by decide),by lia,by lia⟩
 refine⟨σ',J1,J2,fun dz ez N hN A most R H Q X hmo S q2 q3=>?_⟩
 subst ez
 obtain⟨n,rfl⟩:=Runs.sp (k:=3) (Nat.le_trans (Nat.le_add_left 3 (3*d+2*c+12)) hN)
 have hn:3*d+2*c+12≤n:=Nat.le_of_add_le_add_right (b:=3) hN
 refine fw_in rfl rfl ?_
 refine⟨rfl,rfl,?_⟩
 refine⟨_,go (n+1) (Nat.le_succ_of_le hn) ⟨A,most,R,.int g0,.none,.none,_,_⟩ H hmo S ⟨fun hm2 H2 S2 ρ hρ=>?_,fun u1 u2 σ'' ρ H'' u3 u4 u5=>q3 u1 u2 σ'' H'' u3 u4 u5⟩ .undef⟩
 exact rLoc (n:=n+2) (hd:=false) (r:=.nil) (X:=callX X) hρ (q2 hm2 H2 S2)
end Bn
namespace Bn
open Bm
structure Rp where
 d:Nat
 v:Int
 row:List Int
 n:Int
noncomputable def rpFs (x:Rp) (l:Nat):List (String×AV):=[("depth",.int x.d),("value",.int x.v),("line",.ref l),("nodes",.int x.n)]
noncomputable def RepOk (R:AHeap) (r a:Nat) (x:Rp):Prop:=∃ l,R a=some (.obj 548 (rpFs x l))∧R l=some (.list (intsL x.row))∧l≠r
noncomputable abbrev Reps (R:AHeap) (r:Nat):List Nat→List Rp→Prop:=A2 (RepOk R r)
noncomputable def RepL (R:AHeap) (r:Nat) (xs:List Rp):Prop:=∃ as,R r=some (.list (refs as))∧Reps R r as xs
theorem RepOk.mono {R R':AHeap} {r a x} (k:∀ b o,R b=some o→b≠r→R' b=some o) {ys} (hr:R r=some (.list ys)) (h:RepOk R r a x):RepOk R' r a x:=by
 obtain⟨l,h1,h2,h3⟩:=h
 exact⟨l,k _ _ h1 fun e=>(by rw [e,hr] at h1;cases h1),k _ _ h2 h3,h3⟩
theorem Reps.mono {R R':AHeap} {r} (k:∀ b o,R b=some o→b≠r→R' b=some o) {ys} (hr:R r=some (.list ys)) {as xs} (h:Reps R r as xs):Reps R' r as xs:=A2.mono (fun zz zz q=>q.mono k hr) h
noncomputable def mns (R B:AHeap):AHeap:=fun a=>match B a with
 | none=>R a
 | some _=>none
noncomputable def Sub (H H':AHeap):Prop:=∀ a o,H a=some o→H' a=some o
theorem mns_sub {R B:AHeap}:Sub (mns R B) R:=fun a o h=>by
 unfold mns at h
 cases e:B a with
 | none=>rw [e] at h;exact h
 | some q=>rw [e] at h;cases h
theorem mns_upd {R B:AHeap} {a:Nat} {o:AO} (h:B a=none):mns (upd R a o) B=upd (mns R B) a o:=by
 funext b
 by_cases n:b=a
 ·subst n;rw [upd_eq];unfold mns;rw [h];exact upd_eq
 ·rw [upd_ne n];unfold mns;rw [upd_ne n]
theorem mns_none {R B:AHeap} {a:Nat} (h:R a=none):mns R B a=none:=sub_none mns_sub h
theorem RepL.sup {E R:AHeap} {r xs} (h:RepL E r xs) (s:Sub E R):RepL R r xs:=by
 obtain⟨as,h1,h2⟩:=h
 exact⟨as,s _ _ h1,h2.mono (fun b q e zz=>s b q e) h1⟩
theorem rep_add {R B:AHeap} {r l a:Nat} {x:Rp} {xs} (hB:Sub B R) (hr:B r=none) (L:RepL (mns R B) r xs) (rl:R l=none) (ra:upd R l (.list (intsL x.row)) a=none) :
  ∃ bs,bs.length=xs.length∧upd (upd R l (.list (intsL x.row))) a (.obj 548 (rpFs x l)) r=some (.list (refs bs)) ∧
   RepL (mns (upd (upd (upd R l (.list (intsL x.row))) a (.obj 548 (rpFs x l))) r (.list (refs (bs++[a])))) B) r (xs++[x])∧Sub B (upd (upd (upd R l (.list (intsL x.row))) a (.obj 548 (rpFs x l))) r (.list (refs (bs++[a])))):=by
 obtain⟨bs,b1,b2⟩:=L
 have al:a≠l:=fun e=>by rw [e,upd_eq] at ra;cases ra
 have ra':R a=none:=by rw [upd_ne al] at ra;exact ra
 have bl:=sub_none hB rl
 have ba:=sub_none hB ra'
 have hr':=mns_sub _ _ b1
 have nl:=ne_nl rl hr'
 have na:=ne_nl ra' hr'
 refine⟨bs,A2.len b2,upd_some (upd_some hr' nl) na,?_,sub_put (sub_put (sub_put hB bl) ba) hr⟩
 rw [mns_upd hr,mns_upd ba,mns_upd bl]
 refine⟨bs++[a],upd_eq,A2.snoc (b2.mono (fun b o e n=>?_) b1) ⟨l,upd_some upd_eq na.symm,upd_some (upd_some upd_eq al.symm) nl.symm,nl.symm⟩⟩
 exact upd_some (upd_some (upd_some e (ne_nl (mns_none rl) e)) (ne_nl (mns_none ra') e)) n
theorem x_report {A:Ad} {f:Cf} {G:Gm} {age:Int} {σ:Sg} {R H:AHeap} (S:SR A f G age σ R H) {a l:Nat} (ha:H a=none) {d:Nat} {v nn:Int} {row:List Int} {n:Nat} {Q X:EQ}
  (h:SR A f G age σ (upd R a (.obj 548 (rpFs ⟨d,v,row,nn⟩ l))) (upd H a (.obj 548 (rpFs ⟨d,v,row,nn⟩ l)))→Q .none (upd H a (.obj 548 (rpFs ⟨d,v,row,nn⟩ l)))) :
  FW theTab (n+1) false 545 [.ref a,.int d,.int v,.ref l,.int nn] (upd H a (.obj 548 [])) Q X:=by
 refine fw_in rfl rfl ?_
 refine psU rfl (by decide) ?_
 refine psU rfl (by show 1 < 100;decide) ?_
 refine psU rfl (by show 2 < 100;decide) ?_
 refine psU rfl (by show 3 < 100;decide) ?_
 exact h (S.put (.inr ha))
noncomputable def i_val:IS:=match ir_iterate_loop0 with
 | .cons s _=>s
 | _=>.bad
noncomputable def i_add:ISs:=match ir_iterate_loop0 with
 | .cons _ r=>r
 | _=>.nil
noncomputable def ienv (A:Ad) (w1:AV) (delta:Int) (r:Nat) (w4:AV) (dz:Int) (w6:AV):List AV:=[.ref A.c,w1,.int delta,.ref r,w4,.int dz,w6]
noncomputable def ValR (f:Cf) (G:Gm) (age:Int) (k:Nat) (delta:Int) (d:Nat) (v:Int) (xs:List Rp) (σ σ1:Sg):Prop :=
  ∀ (n:Nat),k≤n→∀ (A:Ad) (most:Int) (R H:AHeap) (r:Nat) (w1 w4 w6:AV) (dz:Int) (K:SQ) (X:SX),dz=d→(most≤0∨σ.nodes≤most)→SR A { f with most:=most } G age σ R H→RepL R r xs →
   ((most≤0∨σ1.nodes≤most)→∀ H',SR A { f with most:=most } G age σ1 R H'→K .next (ienv A w1 delta r w4 dz (.int v)) H') →
   (0 < most→most < σ1.nodes→∀ σ'' H',Unw σ''→σ''.nodes=most→SR A { f with most:=most } G age σ'' R H'→X (.int most) (ienv A w1 delta r w4 dz w6) H') →
   vS theTab (FW theTab (n+1)) i_val false (ienv A w1 delta r w4 dz w6) H K X
theorem run_val (G:Gm) (O:GOk G) (c:Nat) (f:Cf) (hcf:f.calm=(c:Int)) (age:Int) (hag:0≤age∧age < 64) (delta:Int) (d:Nat) (hd:d≤3) (hdc:d+c≤20) (xs:List Rp) (σ:Sg) (I:SOk G c f σ) (T:At σ 0 0) :
  ∃ σ1 row,SOk G c f σ1∧Fr σ σ1∧σ.nodes < σ1.nodes∧σ1.lines[0]? = some row∧Lead G c d 0 0 row (G.F c d 0 0)∧ValR f G age (3*d+2*c+14) delta d (G.F c d 0 0) xs σ σ1:=by
 have hS:=x_search G O c f hcf age hag d
 rcases Nat.eq_zero_or_pos xs.length with h0 | hpos
 ·obtain⟨v,σ1,o,run⟩:=hS σ 0 0 (-32001) 32001 true I T Iff.rfl O.n0 (by rw [Nat.zero_add];exact hd) (by rw [Nat.zero_add];exact hdc) (by decide) (by decide) (by decide) (Nat.zero_le _)
  have vlo:=o.nv.ge (by lia)
  have vhi:=o.nv.le (by lia)
  have w1:-32001 < v:=by lia
  have w2:v < 32001:=by lia
  have e:v=G.F c d 0 0:=o.res.2.2 w1 w2
  obtain⟨row,r1,r2,r3,r4⟩:=o.row
  refine⟨σ1,row,o.ok,o.fr,o.lt,r1,e ▸ r4 rfl w1 w2,fun n hn A most R H r w1 w4 w6 dz K X ez hmo S L h2 h3=>?_⟩
  obtain⟨as,l1,l2⟩:=L
  refine tL (S.sub _ _ l1) ?_
  refine bT (by rw [List.length_eq_zero_iff.1 ((A2.len l2).trans h0)];rfl) ?_
  refine fw_in rfl rfl ?_
  exact run dz 0 ez rfl n (by lia) A most R H _ _ hmo S (fun hm1 H1 S1=>e ▸ h2 hm1 H1 S1) h3
 ·obtain⟨last,hlast⟩:=getSome (l:=xs) (k:=xs.length - 1) (Nat.sub_lt hpos Nat.one_pos)
  obtain⟨σ1,J1,J2,J3,⟨row,r1,r2⟩,run⟩:=x_aspirate G O c f age d hS hd hdc σ last.v delta I T
  refine⟨σ1,row,J1,J2,J3,r1,r2,fun n hn A most R H r w1 w4 w6 dz K X ez hmo S L h2 h3=>?_⟩
  obtain⟨as,l1,l2⟩:=L
  have hlen:=A2.len l2
  rw [← hlen] at hlast hpos
  obtain⟨a,a1,l,a2,a3,a4⟩:=A2.at l2 hlast
  have l1:=S.sub _ _ l1
  refine tL l1 ?_
  refine bF (by cases as with
   | nil=>cases hpos
   | cons=>rfl) ?_
  refine iL (v:=.ref a) (j:=as.length - 1) l1 (by rw [refs_len];exact place_last hpos) (refs_get a1) ?_
  refine aG (S.sub _ _ a2) rfl rfl (by trivial) ?_
  exact run dz ez (n+1) (Nat.succ_le_succ hn) A most R H _ (fun v H'=>X v (ienv A w1 delta r w4 dz w6) H') hmo S h2 h3
noncomputable def iW (n:Nat) (X:SX):Nat→List AV→AHeap→SQ→Prop:=whileL (fun ρ H K=>vE theTab false (FW theTab (n+1) false) (.cmp .le (.loc 5) (.loc 4)) ρ H (fun v H=>truthy v H fun r=>K r H) (fun n H=>X n ρ H)) (fun ρ H K=>vSs theTab (FW theTab (n+1)) ir_iterate_loop0 false ρ H K X)
noncomputable def GdR (G:Gm) (c i:Nat) (lo:Int) (new:List Rp):Prop:=∀ k x,new[k]? = some x→x.d=i+k+1∧x.v=G.F c (i+k+1) 0 0∧Lead G c (i+k+1) 0 0 x.row x.v∧lo < x.n
theorem GdR.cons {G c i lo n1 new} (h:GdR G c (i+1) n1 new) (hn:lo < n1) {row} (l:Lead G c (i+1) 0 0 row (G.F c (i+1) 0 0)):GdR G c i lo (⟨i+1,G.F c (i+1) 0 0,row,n1⟩::new):=by
 intro k x e
 cases k with
 | zero=>cases e;exact⟨rfl,rfl,l,hn⟩
 | succ k =>
  obtain⟨g1,g2,g3,g4⟩:=h k x e
  rw [Nat.add_assoc i 1 k,Nat.add_comm 1 k] at g1 g2 g3
  exact⟨g1,g2,g3,Int.lt_trans hn g4⟩
theorem GdR.lt {G c i lo new} (h:GdR G c i lo new):∀ x∈new,lo < x.n:=fun x hx=>by
 obtain⟨k,hk⟩:=List.getElem?_of_mem hx
 exact(h k x hk).2.2.2
noncomputable def toldOf (most:Int) (reps:List Rp):List Rp:=if most≤0 then reps else reps.filter fun x=>decide (x.n≤most)
theorem told_cons {most:Int} {x:Rp} {l} (h:most≤0∨x.n≤most):toldOf most (x::l)=x::toldOf most l:=by
 unfold toldOf
 by_cases c:most≤0
 ·rw [if_pos c,if_pos c]
 ·rw [if_neg c,if_neg c,List.filter_cons_of_pos (p:=fun x:Rp=>decide (x.n≤most)) (a:=x) (decide_eq_true (h.resolve_left c))]
theorem told_nil {most:Int} {l:List Rp} (h:0 < most) (k:∀ x∈l,most < x.n):toldOf most l=[]:=by
 unfold toldOf
 rw [if_neg (Int.not_le.2 h)]
 exact List.filter_eq_nil_iff.2 fun x hx z=>absurd (of_decide_eq_true z) (Int.not_le.2 (k x hx))
theorem lAppR {a:Nat} {l:List Nat} {m:Nat} {H:AHeap} {Q:EQ} (h:H a=some (.list (refs l))) (hl:l.length < lim) (k:Q .none (upd H a (.list (refs (l++[m]))))):vListM a "append" [.ref m] H Q :=
 lApp h (by rw [refs_len];exact hl) (by rw [refs_snoc];exact k)
noncomputable def ItR (f:Cf) (G:Gm) (age:Int) (k:Nat) (delta:Int) (D i j:Nat) (xs new:List Rp) (σ σ':Sg):Prop :=
  ∀ (n:Nat),k≤n→∀ (A:Ad) (most:Int) (B R H:AHeap) (r:Nat) (w1 w6:AV) (mz iz:Int) (Q:SQ) (X:SX),mz=D→iz=(i:Int)+1→(most≤0∨σ.nodes≤most)→SR A { f with most:=most } G age σ R H→RepL (mns R B) r xs→Sub B R→B r=none →
   ((most≤0∨σ'.nodes≤most)→∀ H' R' iz w6,SR A { f with most:=most } G age σ' R' H'→RepL (mns R' B) r (xs++toldOf most new)→Sub B R'→Q .next (ienv A w1 delta r (.int mz) iz w6) H') →
   (0 < most→most < σ'.nodes→∀ σ'' H' R' iz w6,Unw σ''→SR A { f with most:=most } G age σ'' R' H'→RepL (mns R' B) r (xs++toldOf most new)→Sub B R'→X (.int most) (ienv A w1 delta r (.int mz) iz w6) H') →
   iW n X (j+1) (ienv A w1 delta r (.int mz) iz w6) H Q
theorem it_loop (G:Gm) (O:GOk G) (c:Nat) (f:Cf) (hcf:f.calm=(c:Int)) (age:Int) (hag:0≤age∧age < 64) (delta:Int) (D:Nat) (hD:D≤3) (hDc:D+c≤20) (j:Nat):∀ (i:Nat) (xs:List Rp) (σ:Sg),i+j=D→xs.length=i→SOk G c f σ→At σ 0 0 →
  ∃ (new:List Rp) (σ':Sg),new.length=j∧GdR G c i σ.nodes new∧σ.nodes≤σ'.nodes∧At σ' 0 0∧ItR f G age (3*D+2*c+14) delta D i j xs new σ σ':=by
 induction j with
 | zero =>
  intro i xs σ hij hri I T
  refine⟨[],σ,rfl,(fun k x h=>nomatch h),Int.le_refl _,T,fun n hn A most B R H r w1 w6 mz iz Q X em ez hmo S L hB hr h2 h3=>?_⟩
  refine whI ?_
  refine dF (by lia) ?_
  refine h2 hmo H R _ _ S ?_ hB
  have:toldOf most []=[]:=by unfold toldOf;split <;> rfl
  rw [this,List.append_nil];exact L
 | succ j ih =>
  intro i xs σ hij hri I T
  obtain⟨σ1,row,J1,J2,J3,J4,J5,rv⟩:=run_val G O c f hcf age hag delta (i+1) (by lia) (by lia) xs σ I T
  obtain⟨new,σ',K1,K2,K3,K4,go⟩:=ih (i+1) (xs++[⟨i+1,G.F c (i+1) 0 0,row,σ1.nodes⟩]) σ1 (by lia) (by rw [List.length_append,hri];rfl) J1 (T.fr J2)
  refine⟨⟨i+1,G.F c (i+1) 0 0,row,σ1.nodes⟩::new,σ',congrArg Nat.succ K1,K2.cons J3 J5,by lia,K4,fun n hn A most B R H r w1 w6 mz iz Q X em ez hmo S L hB hr h2 h3=>?_⟩
  have ez':iz=((i+1:Nat):Int):=ez
  refine whI ?_
  refine dT (by lia) ?_
  refine rv n (by lia) A most R H r _ _ _ _ _ _ ez hmo S (L.sup mns_sub) (fun hm1 H1 S1=>?_) (fun u1 u2 σ'' H'' u3 u4 u5=>?_)
  ·obtain⟨as,l1,l2⟩:=L
   have l1':=mns_sub _ _ l1
   refine mL (S1.sub _ _ l1') rfl ?_
   refine x_line_from (ply:=0) S1 J4 fun l hl=>?_
   have rl:=S1.none_R hl
   have S2:=S1.put (o:=.list (intsL row)) (.inr hl)
   refine cnodes S2 ?_
   intro a ha
   have ra:=S2.none_R ha
   subst ez'
   refine x_report (row:=row) S2 ha fun S3=>?_
   obtain⟨bs,b1,b2,b3,b4⟩:=rep_add (x:=⟨i+1,G.F c (i+1) 0 0,row,σ1.nodes⟩) hB hr ⟨as,l1,l2⟩ rl ra
   refine lAppR (S3.sub _ _ b2) (by rw [b1,hri];unfold lim;lia) ?_
   have S4:=S3.put (o:=.list (refs (bs++[a]))) (a:=r) (.inl (by rw [b2];exact fun z=>nomatch z))
   refine bAdd ?_
   refine aN ?_
   have told:=told_cons (l:=new) (x:=⟨i+1,G.F c (i+1) 0 0,row,σ1.nodes⟩) hm1
   refine go n hn A most B _ _ r _ _ _ _ Q X em rfl hm1 S4 b3 b4 hr (fun hm2 H' R' iz w6 S' L'=>h2 hm2 H' R' iz w6 S' ?_) (fun u1 u2 σ'' H' R' iz w6 u3 u4 L'=>h3 u1 u2 σ'' H' R' iz w6 u3 u4 ?_)
   ·rw [told,List.append_cons];exact L'
   ·rw [told,List.append_cons];exact L'
  ·refine h3 u1 (by lia) σ'' H'' R _ _ u3 u5 ?_ hB
   rw [told_nil u1 fun x hx=>?_,List.append_nil]
   ·exact L
   ·rcases List.mem_cons.1 hx with hx | hx
    ·rw [hx];exact u2
    ·exact Int.lt_trans u2 (K2.lt x hx)
end Bn
namespace Bn
open Bm
theorem SR.noage {A:Ad} {f:Cf} {G:Gm} {age age':Int} {σ:Sg} {R H:AHeap} (h:f.tab=none) (S:SR A f G age σ R H):SR A f G age' σ R H :=
 ⟨⟨S.st.game,S.st.ch,S.st.va,S.st.ck,S.st.dr,S.st.no,S.st.ga,S.st.chR,S.st.noR,S.st.gaR,fun cl w e=>(by rw [h] at e;cases e),S.st.kil,S.st.his⟩,S.dy,S.nd,S.al,S.sub⟩
theorem At.root {σ:Sg} (T:At σ 0 0):σ.path=[0]∧σ.made=0:=by
 have h1:=T.len
 have h2:=T.unw.hd
 have h3:=T.unw.md
 cases hp:σ.path with
 | nil=>rw [hp] at h1;cases h1
 | cons a r =>
  rw [hp] at h1 h2 h3
  have:r=[]:=List.length_eq_zero_iff.1 (Nat.succ.inj h1)
  subst this
  exact⟨congrArg (fun a=>[a]) (Option.some.inj h2),h3⟩
theorem x_deepest {A:Ad} {f:Cf} {G:Gm} {age:Int} {σ:Sg} {R H:AHeap} (S:SR A f G age σ R H) {n:Nat} {Q X:EQ} (h:Q (.int (246 - 1 - max 0 f.calm)) H):FW theTab (n+1) false 580 [.ref A.c] H Q X:=by
 refine fw_in rfl rfl ?_
 refine bSub ?_
 refine cqd S ?_
 refine⟨rfl,?_⟩
 exact bSub h
noncomputable def ItersR (f:Cf) (G:Gm) (k:Nat) (delta:Int) (D:Nat) (reps:List Rp) (σ:Sg):Prop :=
  ∀ (n:Nat),k≤n→∀ (A:Ad) (most:Int) (R H:AHeap) (Dz:Int) (Q X:EQ),Dz=D→(most≤0∨σ.nodes≤most)→SR A { f with most:=most } G 0 σ R H →
   (∀ H' R' r σf,SR A { f with most:=most } G 1 σf R' H'→σf.path=[0]→σf.made=0→Sub R R'→RepL (mns R' R) r (toldOf most reps)→Q (.ref r) H') →
   FW theTab (n+4) false 587 [.ref A.c,.int Dz,.int delta] H Q X
noncomputable def it_rest:ISs:=match ir_iterate with
 | .cons _ r=>r
 | _=>.nil
theorem x_iterate (G:Gm) (O:GOk G) (c:Nat) (f:Cf) (hcf:f.calm=(c:Int)) (delta:Int) (D:Nat) (hD:D≤3) (hDc:D+c≤20) (σ:Sg) (I:SOk G c f σ) (T:At σ 0 0) :
  ∃ reps:List Rp,reps.length=D∧GdR G c 0 σ.nodes reps∧ItersR f G (3*D+2*c+14) delta D reps σ:=by
 obtain⟨new,σ',K1,K2,K3,K4,go⟩:=it_loop G O c f hcf 1 ⟨by decide,by decide⟩ delta D hD hDc D 0 [] σ (Nat.zero_add D) rfl I T
 refine⟨new,K1,K2,fun n hn A most R H Dz Q X ez hmo S h=>fw_in rfl rfl ?_⟩
 have fin:∀ H1,SR A { f with most:=most } G 1 σ R H1→vSs theTab (FW theTab (n+3)) it_rest false [.ref A.c,.int Dz,.int delta,.undef,.undef,.undef,.undef] H1 (retQ Q) (callX X):=by
  intro H1 S1 r hr
  have rr:=S1.none_R hr
  have S2:=S1.put (o:=.list []) (.inr hr)
  refine x_deepest S2 ?_
  have hmin:min Dz (246 - 1 - max 0 f.calm)=(D:Int):=by rw [hcf,ez];lia
  refine⟨rfl,rfl,?_⟩
  refine⟨_,go (n+2) (Nat.le_add_right_of_le hn) A most R _ _ r _ _ _ 1 _ _ hmin rfl hmo S2 ⟨[],by rw [mns_upd rr];exact upd_eq,trivial⟩ (drop_put rr) rr (fun hm2 H' R' iz w6 S' L' hB=>?_) (fun u1 u2 σ'' H' R' iz w6 u3 u4 u5 u6 a ha=>?_)⟩
  ·obtain⟨p1,p2⟩:=K4.root
   exact h H' R' r σ' S' p1 p2 hB L'
  ·refine x_unwind (n:=n) u4 u3 fun H2 S2=>?_
   exact h H2 R' r _ S2 rfl rfl u6 u5
 rcases tab_cases f with htab | ⟨⟨cl,w⟩,htab⟩
 ·refine ctabN S htab ?_
  refine bF rfl ?_
  exact fin H (S.noage htab)
 ·refine ctabS S htab ?_
  refine bT rfl ?_
  refine ctabS S htab ?_
  refine mO (S.st.tab cl w htab).1 rfl rfl ?_
  exact x_new_search S htab fun H1 S1=>fin H1 S1
structure PA (H:AHeap) (G:Gm) (i k t m g:Nat) (bs:List Bool):Prop where
 t:H t=some (.tup [.ref k,.int (G.val i),.bool (G.ck i),.bool (G.dr i),.ref m,.ref g])
 k:H k=some (.list (nats (G.kid i)))
 m:H m=some (.list (boolsL bs))
 l:bs.length=(G.kid i).length
 no:∀ j,G.no i j=(bs[j - 1]?).getD false
noncomputable def PV (H:AHeap) (pl:Nat) (G:Gm):Prop:=∃ ts,H pl=some (.list (refs ts))∧ts.length=G.kids.length∧∀ i,i < G.kids.length→∃ t k m g bs,ts[i]? = some t∧PA H G i k t m g bs
theorem PV.mono {H H':AHeap} {pl:Nat} {G:Gm} (h:PV H pl G) (s:Sub H H'):PV H' pl G:=by
 obtain⟨ts,h1,h2,h3⟩:=h
 refine⟨ts,s _ _ h1,h2,fun i hi=>?_⟩
 obtain⟨t,k,m,g,bs,a1,a⟩:=h3 i hi
 exact⟨t,k,m,g,bs,a1,s _ _ a.t,s _ _ a.k,s _ _ a.m,a.l,a.no⟩
theorem Sub.refl {H:AHeap}:Sub H H:=fun zz zz h=>h
theorem Sub.trans {a b c:AHeap} (h:Sub a b) (k:Sub b c):Sub a c:=fun zz zz e=>k _ _ (h _ _ e)
theorem Sub.new {H:AHeap} {a:Nat} {o:AO} (h:H a=none):Sub H (upd H a o):=drop_put h
theorem SR.grow {A f G age σ R H H'} (S:SR A f G age σ R H) (h:Sub H H'):SR A f G age σ R H':=by
 have hc:∀ a∈A.chg,H' a=H a:=fun a m=>by
  cases e:H a with
  | none=>exact absurd e (S.al a m).1
  | some o=>exact h _ _ e
 exact⟨S.st.mono fun a o e f=>⟨h _ _ e,f⟩,S.dy.mono (fun a o e f=>⟨h _ _ e,f⟩) hc,S.nd,fun a m=>⟨by rw [hc a m];exact(S.al a m).1,(S.al a m).2⟩,fun a o e=>h _ _ (S.sub a o e)⟩
theorem PV.row {H:AHeap} {pl:Nat} {G:Gm} (V:PV H pl G) {x:Nat} (hx:x < G.kids.length):∃ t k m g bs,PA H G x k t m g bs∧∀ {K:AV→Prop},K (.ref t)→vIdx (.ref pl) (.int x) H K:=by
 obtain⟨ts,t1,t2,t3⟩:=V
 obtain⟨t,k,m,g,bs,b1,b⟩:=t3 x hx
 exact⟨t,k,m,g,bs,b,fun q=>iL t1 (place_nat (by rw [refs_len,t2];exact hx) rfl) (refs_get b1) q⟩
theorem eqL_nats {n:Nat} {H:AHeap}:∀ {l:List Nat},eqL (eqA (n+1) H) (nats l) (nats l)=some true
 | []=>rfl
 | x::l=>by
  have h1:eqA (n+1) H (.int x) (.int x)=some true:=congrArg some (decide_eq_true rfl)
  have:=@eqL_nats n H l
  rw [nats_cons];unfold eqL;rw [h1,this];rfl
theorem eqL_ints {n:Nat} {H:AHeap}:∀ {l:List Int},eqL (eqA (n+1) H) (intsL l) (intsL l)=some true
 | []=>rfl
 | x::l=>by
  have h1:eqA (n+1) H (.int x) (.int x)=some true:=congrArg some (decide_eq_true rfl)
  have:=@eqL_ints n H l
  show eqL (eqA (n+1) H) (.int x::intsL l) (.int x::intsL l)=some true
  unfold eqL;rw [h1,this];rfl
theorem eqL_eq {a b:Nat} {xs:List AV} {H:AHeap} {Q:Bool→Prop} (ha:H a=some (.list xs)) (hb:H b=some (.list xs)) (e:eqL (eqA 3 H) xs xs=some true) (q:Q true):vCmp .eq (.ref a) (.ref b) H Q:=by
 have:eqA 4 H (.ref a) (.ref b)=some true:=by
  unfold eqA eqI;dsimp only;unfold eqC;rw [ha,hb];exact e
 unfold vCmp;dsimp only;rw [this];exact q
theorem x_at_root {A:Ad} {f:Cf} {G:Gm} {age:Int} {σ:Sg} {R H:AHeap} (S:SR A f G age σ R H) (O:GOk G) (h1:σ.path=[0]) (h2:σ.made=0) {pl:Nat} (V:PV H pl G) {n:Nat} {Q X:EQ} (h:∀ H',Sub H H'→Q (.bool true) H'):FW theTab (n+2) false 735 [.ref A.c,.ref pl] H Q X:=by
 have hx:σ.path.getLast? = some 0:=by rw [h1];rfl
 refine fw_in rfl rfl ?_
 refine cmade S ?_
 refine dT h2 ?_
 refine cgame S ?_
 refine mO S.st.game.1 rfl rfl ?_
 refine g_key S hx ?_
 refine dT rfl ?_
 refine cgame S ?_
 refine mO S.st.game.1 rfl rfl ?_
 refine g_moves S O hx O.n0 fun a ha=>?_
 have s1:Sub H (upd H a (.list (nats (G.mv 0)))):=Sub.new ha
 obtain⟨t,k,m,g,bs,P,row⟩:=(V.mono s1).row O.n0
 refine row ?_
 refine iT (j:=0) P.t rfl rfl ?_
 refine oL P.k ?_
 refine bAdd ?_
 have hl:=kid_le O 0
 refine⟨rfl,⟨by rw [nats_len];unfold big lim;lia,?_⟩⟩
 rw [nats_len,ints_mv]
 intro b hb
 have ab:a≠b:=fun z=>by rw [← z,upd_eq] at hb;cases hb
 exact eqL_eq (upd_some upd_eq ab) upd_eq eqL_nats (h _ (s1.trans (Sub.new hb)))
end Bn
namespace Bn
open Bm
noncomputable def TRok (R:AHeap) (t:Nat) (x:Rp):Prop:=∃ l,R t=some (.tup [.int x.d,.int x.v,.ref l,.int x.n])∧R l=some (.list (intsL x.row))
noncomputable abbrev TRs (R:AHeap):List Nat→List Rp→Prop:=A2 (TRok R)
noncomputable def TupR (R:AHeap) (w:Nat) (xs:List Rp):Prop:=∃ ts,R w=some (.list (refs ts))∧TRs R ts xs
theorem TRs.mono {R R':AHeap} (k:Sub R R') {as xs} (h:TRs R as xs):TRs R' as xs:=A2.mono (fun _ _ ⟨l,h1,h2⟩=>⟨l,k _ _ h1,k _ _ h2⟩) h
theorem TupR.mono {R R':AHeap} {w xs} (h:TupR R w xs) (k:Sub R R'):TupR R' w xs:=by
 obtain⟨ts,h1,h2⟩:=h
 exact⟨ts,k _ _ h1,TRs.mono k h2⟩
noncomputable def repElt:IE:=match ir_law_reports with
 | .cons (.ret (.comp e _)) _=>e
 | _=>.c .none
theorem rep_comp {A:Ad} {f:Cf} {G:Gm} {age:Int} {σ:Sg} {n r:Nat} {all ρ:List AV} {R0:AHeap} {K:List AV→AHeap→Prop} (as:List Nat):∀ (todo:List Rp) (R H:AHeap) (ts:List Nat) (done:List Rp),SR A f G age σ R H→R r=some (.list all)→R0 r=none→Reps (mns R R0) r as todo→TRs (mns R R0) ts done→Sub R0 R →
  (∀ H' R' ts',SR A f G age σ R' H'→TRs (mns R' R0) ts' (done++todo)→Sub R0 R'→K (refs ts') H') →
  compL (.lst r all) (fun v H K=>vE theTab false (FW theTab n false) repElt (v::ρ) H K (fun zz zz=>False)) (refs as) (refs ts) H K:=by
 induction as with
 | nil=>intro todo R H ts done S hr hr0 hp ht h0 h;cases todo with
  | nil=>rw [List.append_nil] at h;exact h H R ts S ht h0
  | cons=>exact hp.elim
 | cons a as ih=>intro todo R H ts done S hr hr0 hp ht h0 h;cases todo with
  | nil=>exact hp.elim
  | cons x todo =>
   obtain⟨⟨l,p1,p2,p3⟩,hp⟩:=hp
   have ha:=S.sub _ _ (mns_sub _ _ p1)
   refine aG ha rfl rfl (by trivial) ?_
   refine aG ha rfl rfl (by trivial) ?_
   refine aG ha rfl rfl (by trivial) ?_
   refine aG ha rfl rfl (by trivial) ?_
   intro t ht0
   have rt:=S.none_R ht0
   have bt:=sub_none h0 rt
   have S1:=S.put (o:=.tup [.int x.d,.int x.v,.ref l,.int x.n]) (.inr ht0)
   have hr1:=upd_some (o:=.tup [.int x.d,.int x.v,.ref l,.int x.n]) hr (ne_nl rt hr)
   refine⟨S1.sub _ _ hr1,?_⟩
   have em:mns (upd R t (.tup [.int x.d,.int x.v,.ref l,.int x.n])) R0=upd (mns R R0) t (.tup [.int x.d,.int x.v,.ref l,.int x.n]):=mns_upd bt
   have sm:Sub (mns R R0) (mns (upd R t (.tup [.int x.d,.int x.v,.ref l,.int x.n])) R0):=by rw [em];exact Sub.new (mns_none rt)
   have hr2:mns R R0 r=some (.list all):=by unfold mns;rw [hr0];exact hr
   have go:=ih todo _ _ (ts++[t]) (done++[x]) S1 hr1 hr0 (Reps.mono (fun b o e zz=>sm b o e) hr2 hp) (A2.snoc (TRs.mono sm ht) ⟨l,by rw [em];exact upd_eq,sm _ _ p2⟩) (h0.trans (Sub.new rt)) (by rw [← List.append_cons];exact h)
   rw [← refs_snoc] at go
   exact go
noncomputable def RepsR (f:Cf) (G:Gm) (k:Nat) (delta:Int) (D:Nat) (reps:List Rp) (σ:Sg):Prop :=
  ∀ (n:Nat),k≤n→∀ (A:Ad) (most:Int) (R H:AHeap) (Dz:Int) (Q X:EQ),Dz=D→(most≤0∨σ.nodes≤most)→SR A { f with most:=most } G 0 σ R H →
   (∀ H' R' w σf,SR A { f with most:=most } G 1 σf R' H'→σf.path=[0]→σf.made=0→Sub R R'→TupR (mns R' R) w (toldOf most reps)→Q (.ref w) H') →
   FW theTab (n+5) false 740 [.ref A.c,.int Dz,.int delta] H Q X
theorem x_reports (G:Gm) (O:GOk G) (c:Nat) (f:Cf) (hcf:f.calm=(c:Int)) (delta:Int) (D:Nat) (hD:D≤3) (hDc:D+c≤20) (σ:Sg) (I:SOk G c f σ) (T:At σ 0 0) :
  ∃ reps:List Rp,reps.length=D∧GdR G c 0 σ.nodes reps∧RepsR f G (3*D+2*c+14) delta D reps σ:=by
 obtain⟨reps,K1,K2,go⟩:=x_iterate G O c f hcf delta D hD hDc σ I T
 refine⟨reps,K1,K2,fun n hn A most R H Dz Q X ez hmo S h=>fw_in rfl rfl ?_⟩
 refine go n hn A most R H Dz _ _ ez hmo S fun H1 R1 r σf S1 p1 p2 sb L=>?_
 obtain⟨as,l1,l2⟩:=L
 have l1':=mns_sub _ _ l1
 have hr0:R r=none:=by
  cases e:R r with
  | none=>rfl
  | some o=>unfold mns at l1;rw [e] at l1;cases l1
 refine vO (S1.sub _ _ l1') ⟨rfl,?_⟩
 refine rep_comp (R0:=R) as _ R1 H1 [] [] S1 l1' hr0 l2 trivial sb fun H2 R2 ts S2 t2 sb2 w hw=>?_
 have rw':=S2.none_R hw
 refine h _ _ w σf (S2.put (.inr hw)) p1 p2 (sb2.trans (Sub.new rw')) ⟨ts,?_,?_⟩
 ·rw [mns_upd (sub_none sb2 rw')];exact upd_eq
 ·rw [mns_upd (sub_none sb2 rw')];exact TRs.mono (Sub.new (mns_none rw')) t2
theorem eq_nil {n:Nat} {H:AHeap} {a b:Nat} {xs:List AV} (ha:H a=some (.list xs)) (hb:H b=some (.list [])):eqA (n+1) H (.ref a) (.ref b)=some xs.isEmpty:=by
 unfold eqA eqI;dsimp only;unfold eqC;rw [ha,hb]
 cases xs <;> rfl
theorem eqN {H:AHeap} {a b:Nat} {xs:List AV} {Q:Bool→Prop} (ha:H a=some (.list xs)) (hb:H b=some (.list [])) (q:Q xs.isEmpty):vCmp .eq (.ref a) (.ref b) H Q:=by
 unfold vCmp;dsimp only;rw [eq_nil ha hb];exact q
theorem neN {H:AHeap} {a b:Nat} {xs:List AV} {Q:Bool→Prop} (ha:H a=some (.list xs)) (hb:H b=some (.list [])) (q:Q (!xs.isEmpty)):vCmp .ne (.ref a) (.ref b) H Q:=by
 unfold vCmp;dsimp only;rw [eq_nil ha hb];exact q
theorem fmx_ub {m:Int}:∀ {l:List Int} {b:Int},b≤m→(∀ k∈l,k≤m)→fmx b l≤m:=by
 intro l;induction l with
 | nil=>exact fun h zz=>h
 | cons x l ih=>exact fun {b} h hl=>ih (b:=max b x) (Int.max_le.2 ⟨h,hl x (List.mem_cons_self ..)⟩) fun k hk=>hl k (List.mem_cons_of_mem _ hk)
theorem fmx_is {m b:Int} {l:List Int} (h1:m∈l∨m=b) (h2:∀ k∈l,k≤m) (h3:b≤m):fmx b l=m:=Int.le_antisymm (fmx_ub h3 h2) (fmx_le h1)
theorem flt_cons {cond:Nat→Bool} {val:Nat→Int} {s:Nat} {l:List Nat} {acc:List Int}:(if cond s=true then acc++[val s] else acc)++(l.filter cond).map val=acc++((s::l).filter cond).map val:=by
 by_cases c:cond s=true
 ·rw [if_pos c,List.filter_cons_of_pos c,List.map_cons,List.append_assoc];rfl
 ·rw [if_neg c,List.filter_cons_of_neg c]
theorem full_loop {T:Bool→CallSem} {H0:AHeap} {al:Nat} {E:AV→List AV} {body:ISs} {X:SX} (hE:∀ v w,lset (E v) 12 w=E w) (cond:Nat→Bool) (val:Nat→Int) (len:Nat)
  (step:∀ (i:Nat) (acc:List Int) (H:AHeap) (K:SQ),i < len→acc.length≤i→Sub H0 H→H al=some (.list (intsL acc)) →
   (∀ H',Sub H0 H'→H' al=some (.list (intsL (if cond i=true then acc++[val i] else acc)))→K .next (E (.int i)) H')→vSs theTab T body false (E (.int i)) H K X) (w:Nat) :
  ∀ (s:Nat) (acc:List Int) (H:AHeap) (v:AV) (Q:SQ),s+w=len→acc.length≤s→Sub H0 H→H al=some (.list (intsL acc)) →
   (∀ H' v,Sub H0 H'→H' al=some (.list (intsL (acc++((List.range' s w).filter cond).map val)))→Q .next (E v) H') →
   forL .rng 12 (fun ρ H K=>vSs theTab T body false ρ H K X) (nats (List.range' s w)) (E v) H Q:=by
 induction w with
 | zero =>
  intro s acc H v Q hs ha hH hal h
  exact foE (h H v hH (by rw [show acc++((List.range' s 0).filter cond).map val=acc from List.append_nil acc];exact hal))
 | succ w ih =>
  intro s acc H v Q hs ha hH hal h
  refine foI (x:=.int s) (xs:=nats (List.range' (s+1) w)) ?_
  rw [hE]
  refine step s acc H _ (by lia) ha hH hal fun H' s' hal'=>?_
  refine fN trivial ?_
  refine ih (s+1) _ H' _ Q (by lia) ?_ s' hal' fun H2 v2 h2 e2=>h H2 v2 h2 ?_
  ·split
   ·rw [List.length_append];exact Nat.succ_le_succ ha
   ·exact Nat.le_succ_of_le ha
  ·rw [flt_cons] at e2;exact e2
theorem mv_range {G:Gm} {x:Nat} {g:Nat→Int}:(G.mv x).map g=(List.range' 0 (G.kid x).length).map fun i=>g (i+1):=by
 unfold Gm.mv
 rw [List.map_map,List.range_eq_range']
 rfl
theorem nz_range {G:Gm} {x:Nat} {g:Nat→Int}:(G.nz x).map g=((List.range' 0 (G.kid x).length).filter fun i=>G.no x (i+1)).map fun i=>g (i+1):=by
 unfold Gm.nz Gm.mv
 rw [List.filter_map,List.map_map,List.range_eq_range']
 rfl
theorem F_dr {G:Gm} {c d p x:Nat} (h:0 < p∧G.dr x=true):G.F c d p x=0:=by
 cases d with
 | zero=>rw [Gm.F];cases c <;> rw [Gm.q,if_pos h]
 | succ d=>rw [Gm.F,if_pos h]
theorem F_nil {G:Gm} {c d p x:Nat} (h:¬ (0 < p∧G.dr x=true)) (hk:G.kid x=[]) (hd:0 < d∨G.ck x=true):G.F c d p x=if G.ck x=true then(p:Int) - 32000 else 0:=by
 cases d with
 | zero =>
  have ck:G.ck x=true:=by
   rcases hd with hd | hd
   ·lia
   ·exact hd
  rw [Gm.F,if_pos ck]
  cases c with
  | zero=>rw [Gm.q,if_neg h,if_pos ⟨ck,hk⟩]
  | succ c=>rw [Gm.q,if_neg h,if_pos ck,if_pos hk]
 | succ d=>rw [Gm.F,if_neg h,if_pos hk]
theorem F_val {G:Gm} {p x:Nat} (h:¬ (0 < p∧G.dr x=true)) (hk:¬ (G.kid x=[]∧G.ck x=true)):G.F 0 0 p x=G.val x:=by
 rw [Gm.F,Gm.q,if_neg h,if_neg fun z=>hk ⟨z.2,z.1⟩]
theorem F_dep {G:Gm} {c d p x:Nat} (h:¬ (0 < p∧G.dr x=true)) (hk:G.kid x≠[]):G.F c (d+1) p x=fmx (-32001) ((List.range' 0 (G.kid x).length).map fun i=>-G.F c d (p+1) (G.to x (i+1))):=by
 rw [Gm.F,if_neg h,if_neg hk,mv_range]
theorem F_chk {G:Gm} {c p x:Nat} (h:¬ (0 < p∧G.dr x=true)) (ck:G.ck x=true) (hk:G.kid x≠[]):G.F (c+1) 0 p x=fmx (-32001) ((List.range' 0 (G.kid x).length).map fun i=>-G.F c 0 (p+1) (G.to x (i+1))):=by
 rw [Gm.F,Gm.q,if_neg h,if_pos ck,if_neg hk,mv_range];rfl
theorem F_not {G:Gm} {c p x:Nat} (h:¬ (0 < p∧G.dr x=true)) (ck:¬ G.ck x=true):G.F (c+1) 0 p x=fmx (G.val x) (((List.range' 0 (G.kid x).length).filter fun i=>G.no x (i+1)).map fun i=>-G.F c 0 (p+1) (G.to x (i+1))):=by
 rw [Gm.F,Gm.q,if_neg h,if_neg ck,nz_range];rfl
theorem to_get {G:Gm} {x i:Nat} (h:i < (G.kid x).length):(G.kid x)[i]? = some (G.to x (i+1)):=by
 have:=to_some (G:=G) (x:=x) (m:=i+1) ⟨by lia,by lia⟩
 simpa using this
theorem to_ok {G:Gm} (O:GOk G) {x i:Nat} (h:i < (G.kid x).length):G.to x (i+1) < G.kids.length:=(to_lt O (x:=x) (m:=i+1) ⟨by lia,by lia⟩).1
theorem ints_snoc {l:List Int} {v:Int}:intsL l++[AV.int v]=intsL (l++[v]):=by unfold intsL;rw [List.map_append];rfl
theorem lAppI {a:Nat} {l:List Int} {m:Int} {H:AHeap} {Q:EQ} (h:H a=some (.list (intsL l))) (hl:l.length < lim) (k:Q .none (upd H a (.list (intsL (l++[m]))))):vListM a "append" [.int m] H Q :=
 lApp h (by rw [ints_len];exact hl) (by rw [ints_snoc];exact k)
noncomputable def ftail:ISs→Nat→ISs
 | s,0=>s
 | .cons _ r,k+1=>ftail r k
 | .nil,_+1=>.nil
noncomputable def FullR (G:Gm) (d c:Nat):Prop:=∀ (N:Nat),d+c+1≤N→∀ (p x:Nat) (H:AHeap) (pl:Nat) (xz pz dz cz:Int) (Q X:EQ),p+d+c≤40→x < G.kids.length→PV H pl G→xz=x→pz=p→dz=d→cz=c→(∀ H',Sub H H'→Q (.int (G.F c d p x)) H')→FW theTab N false 709 [.ref pl,.int xz,.int pz,.int dz,.int cz] H Q X
structure FX (G:Gm) (pl x p:Nat) (Kk m:Nat) (bs:List Bool) (H:AHeap):Prop where
 pv:PV H pl G
 k:H Kk=some (.list (nats (G.kid x)))
 m:H m=some (.list (boolsL bs))
 l:bs.length=(G.kid x).length
 no:∀ j,G.no x j=(bs[j - 1]?).getD false
 x:x < G.kids.length
theorem FX.mono {G pl x p k m bs H H'} (F:FX G pl x p k m bs H) (s:Sub H H'):FX G pl x p k m bs H':=⟨F.pv.mono s,s _ _ F.k,s _ _ F.m,F.l,F.no,F.x⟩
noncomputable def fenv (pl x p d c k:Nat) (v:Int) (ck dr:Bool) (m g:Nat) (al w:AV):List AV:=[.ref pl,.int x,.int p,.int d,.int c,.ref k,.int v,.bool ck,.bool dr,.ref m,.ref g,al,w]
theorem maxQ {al:Nat} {l:List Int} {H:AHeap} {Q:EQ} (hH:H al=some (.list (intsL l))) (h0:l≠[]) (e:∀ m,m∈l→(∀ k∈l,k≤m)→Q (.int m) H):onL (.ref al) H fun xs=>xs≠[]∧∃ ns:List Int,xs=ns.map AV.int∧∀ m,m∈ns→(∀ k∈ns,k≤m)→Q (.int m) H :=
 oL hH ⟨fun z=>h0 (List.map_eq_nil_iff.1 z),l,rfl,e⟩
theorem pred_c {d:Nat}:((d+1:Nat):Int) - 1=d:=Int.add_sub_cancel (d:Int) 1
theorem sub_app {H H':AHeap} {al:Nat} {o:AO} (hal:H al=none) (s:Sub H H'):Sub H (upd H' al o):=fun b q e=>upd_some (s _ _ e) fun z=>by rw [z,hal] at e;cases e
section
variable {G:Gm} {pl x p k m g c d al n:Nat} {bs:List Bool} {H:AHeap} {v:Int} {dr:Bool} {Q X:EQ}
theorem kid_at (F:FX G pl x p k m bs H) {H':AHeap} (s:Sub H H') {i:Nat} (hi:i < (G.kid x).length) {K:AV→Prop} (q:K (.int (G.to x (i+1)))):vIdx (.ref k) (.int i) H' K :=
 iL (s _ _ F.k) (place_nat (by rw [nats_len];exact hi) rfl) (nats_get (to_get hi)) q
theorem full_rng (F:FX G pl x p k m bs H) (O:GOk G) (hal:H al=none) {K:Src→List AV→Prop} (q:K .rng (nats (List.range' 0 (G.kid x).length))):onL (.ref k) (upd H al (.list [])) fun xs=>vRange (.int 0) (.int xs.length) K :=
 have hl:=kid_le O x
 oL (Sub.new hal _ _ F.k) (rN (s:=0) (w:=(G.kid x).length) rfl (by rw [nats_len];exact(Int.zero_add _).symm) (by decide) (by lia) q)
variable (O:GOk G)
include O
theorem full_deep (ih:FullR G d c) (hp:p+(d+1)+c≤40) (hn:d+c+1≤n) (F:FX G pl x p k m bs H) (hk0:G.kid x≠[]) (hal:H al=none) (h:∀ H',Sub H H'→Q (.int (fmx (-32001) ((List.range' 0 (G.kid x).length).map fun i=>-G.F c d (p+1) (G.to x (i+1))))) H') :
  vSs theTab (FW theTab n) (ftail ir_law_full 5) false (fenv pl x p (d+1) c k v (G.ck x) dr m g (.ref al) .undef) (upd H al (.list [])) (retQ Q) (callX X):=by
 have hl:=kid_le O x
 refine full_rng F O hal ⟨rfl,?_⟩
 refine full_loop (E:=fenv pl x p (d+1) c k v (G.ck x) dr m g (.ref al)) (fun zz zz=>rfl) (fun zz=>true) (fun i=>-G.F c d (p+1) (G.to x (i+1))) _ ?_ _ 0 [] _ _ _ (Nat.zero_add _) (Nat.le_refl _) (Sub.new hal) upd_eq ?_
 ·intro i acc H1 K hi hacc sH hH hK
  refine dT (Int.ofNat_lt.2 (Nat.succ_pos d)) ?_
  refine mL hH rfl ?_
  refine kid_at F sH hi ?_
  refine bAdd ?_
  refine bSub ?_
  refine ih n hn (p+1) (G.to x (i+1)) H1 pl _ _ _ _ _ _ (by lia) (to_ok O hi) (F.pv.mono sH) rfl rfl pred_c rfl fun H2 s=>?_
  refine lAppI (s _ _ hH) (by unfold lim;lia) ?_
  exact hK _ (sub_app hal (sH.trans s)) upd_eq
 ·intro H1 w s hH
  rw [List.nil_append,List.filter_eq_self.2 (fun zz zz=>rfl)] at hH
  have z:¬ (((d+1:Nat):Int)=0):=by lia
  refine dF z ?_
  refine dF z ?_
  refine⟨rfl,maxQ hH (fun z=>hk0 ?_) fun mm hm hmx=>?_⟩
  ·have:=congrArg List.length z
   rw [List.length_map,List.length_range'] at this
   exact List.length_eq_zero_iff.1 this
  ·rw [fmx_is (.inl hm) hmx ?_] at h
   ·exact h _ s
   ·obtain⟨i,hi,rfl⟩:=List.mem_map.1 hm
    have:=(F_NV O c d (p+1) (G.to x (i+1)) (by lia)).le (by lia)
    lia
theorem full_chk (ih:FullR G 0 c) (hp:p+(c+1)≤40) (hn:c+1≤n) (F:FX G pl x p k m bs H) (hk0:G.kid x≠[]) (hal:H al=none) {ck:Bool} (hck:ck=true) (h:∀ H',Sub H H'→Q (.int (fmx (-32001) ((List.range' 0 (G.kid x).length).map fun i=>-G.F c 0 (p+1) (G.to x (i+1))))) H') :
  vSs theTab (FW theTab n) (ftail ir_law_full 5) false (fenv pl x p 0 (c+1) k v ck dr m g (.ref al) .undef) (upd H al (.list [])) (retQ Q) (callX X):=by
 have hl:=kid_le O x
 refine full_rng F O hal ⟨rfl,?_⟩
 refine full_loop (E:=fenv pl x p 0 (c+1) k v ck dr m g (.ref al)) (fun zz zz=>rfl) (fun zz=>true) (fun i=>-G.F c 0 (p+1) (G.to x (i+1))) _ ?_ _ 0 [] _ _ _ (Nat.zero_add _) (Nat.le_refl _) (Sub.new hal) upd_eq ?_
 ·intro i acc H1 K hi hacc sH hH hK
  refine dF (by decide) ?_
  refine bT hck ?_
  refine bT hck ?_
  refine mL hH rfl ?_
  refine kid_at F sH hi ?_
  refine bAdd ?_
  refine bSub ?_
  refine ih n (by lia) (p+1) (G.to x (i+1)) H1 pl _ _ _ _ _ _ (by lia) (to_ok O hi) (F.pv.mono sH) rfl rfl rfl pred_c fun H2 s=>?_
  refine lAppI (s _ _ hH) (by unfold lim;lia) ?_
  exact hK _ (sub_app hal (sH.trans s)) upd_eq
 ·intro H1 w s hH
  rw [List.nil_append,List.filter_eq_self.2 (fun zz zz=>rfl)] at hH
  refine dT rfl ?_
  refine bT hck ?_
  refine bF rfl ?_
  refine⟨rfl,maxQ hH (fun z=>hk0 ?_) fun mm hm hmx=>?_⟩
  ·have:=congrArg List.length z
   rw [List.length_map,List.length_range'] at this
   exact List.length_eq_zero_iff.1 this
  ·rw [fmx_is (.inl hm) hmx ?_] at h
   ·exact h _ s
   ·obtain⟨i,hi,rfl⟩:=List.mem_map.1 hm
    have:=(F_NV O c 0 (p+1) (G.to x (i+1)) (by lia)).le (by lia)
    lia
theorem full_not (ih:FullR G 0 c) (hp:p+(c+1)≤40) (hn:c+1≤n) (F:FX G pl x p k m bs H) (hal:H al=none) {ck:Bool} (hck:ck=false) (h:∀ H',Sub H H'→Q (.int (fmx v (((List.range' 0 (G.kid x).length).filter fun i=>G.no x (i+1)).map fun i=>-G.F c 0 (p+1) (G.to x (i+1))))) H') :
  vSs theTab (FW theTab n) (ftail ir_law_full 5) false (fenv pl x p 0 (c+1) k v ck dr m g (.ref al) .undef) (upd H al (.list [])) (retQ Q) (callX X):=by
 have hl:=kid_le O x
 refine full_rng F O hal ⟨rfl,?_⟩
 refine full_loop (E:=fenv pl x p 0 (c+1) k v ck dr m g (.ref al)) (fun zz zz=>rfl) (fun i=>G.no x (i+1)) (fun i=>-G.F c 0 (p+1) (G.to x (i+1))) _ ?_ _ 0 [] _ _ _ (Nat.zero_add _) (Nat.le_refl _) (Sub.new hal) upd_eq ?_
 ·intro i acc H1 K hi hacc sH hH hK
  obtain⟨bv,hb⟩:=getSome (l:=bs) (k:=i) (by rw [F.l];exact hi)
  have eb:G.no x (i+1)=bv:=by rw [F.no];show(bs[i]?).getD false=bv;rw [hb];rfl
  rw [eb] at hK
  refine dF (by decide) ?_
  refine bF hck ?_
  refine iL (sH _ _ F.m) (place_nat (by rw [bools_len,F.l];exact hi) rfl) (bools_get hb) ?_
  cases bv with
  | true =>
   refine bT rfl ?_
   refine mL hH rfl ?_
   refine kid_at F sH hi ?_
   refine bAdd ?_
   refine bSub ?_
   refine ih n (by lia) (p+1) (G.to x (i+1)) H1 pl _ _ _ _ _ _ (by lia) (to_ok O hi) (F.pv.mono sH) rfl rfl rfl pred_c fun H2 s=>?_
   refine lAppI (s _ _ hH) (by unfold lim;lia) ?_
   exact hK _ (sub_app hal (sH.trans s)) upd_eq
  | false =>
   refine bF rfl ?_
   exact hK H1 sH hH
 ·intro H1 w s hH
  rw [List.nil_append] at hH
  refine dT rfl ?_
  refine bF hck ?_
  refine bT rfl ?_
  refine mL hH rfl ?_
  refine lAppI hH ?_ ?_
  ·have:=List.length_filter_le (fun i=>G.no x (i+1)) (List.range' 0 (G.kid x).length)
   rw [List.length_range'] at this
   rw [List.length_map];unfold lim;lia
  refine⟨rfl,maxQ upd_eq (fun z=>nomatch (List.append_eq_nil_iff.1 z).2) fun mm hm hmx=>?_⟩
  rw [fmx_is (m:=mm) ?_ (fun k hk=>hmx k (List.mem_append_left _ hk)) (hmx _ (List.mem_append_right _ (List.mem_singleton.2 rfl)))] at h
  ·exact h _ (sub_app hal s)
  ·rcases List.mem_append.1 hm with z | z
   ·exact .inl z
   ·exact .inr (List.mem_singleton.1 z)
end
theorem x_full0 (G:Gm) (O:GOk G) (d c:Nat) (h20:d+c≤20) (ih:∀ d' c',d'+c'+1=d+c→FullR G d' c'):FullR G d c:=by
 intro N hN p x H pl xz pz dz cz Q X hp hx V ex ep ed ec h
 obtain⟨n,rfl⟩:=Runs.sp (k:=1) (Nat.le_trans (Nat.le_add_left 1 (d+c)) hN)
 subst ex;subst ep;subst ed;subst ec
 have hn:d+c≤n:=Nat.le_of_succ_le_succ hN
 obtain⟨t,kk,m,g,bs,P,row⟩:=V.row hx
 have F0:FX G pl x p kk m bs H:=⟨V,P.k,P.m,P.l,P.no,hx⟩
 have rest:¬ (0 < p∧G.dr x=true)→vSs theTab (FW theTab n) (ftail ir_law_full 2) false (fenv pl x p d c kk (G.val x) (G.ck x) (G.dr x) m g .undef .undef) H (retQ Q) (callX X):=by
  intro d1 a ha
  have s1:Sub H (upd H a (.list [])):=Sub.new ha
  have F1:=F0.mono s1
  refine eqN F1.k upd_eq ?_
  have stage2:¬ (G.kid x=[]∧(0 < d∨G.ck x=true))→vSs theTab (FW theTab n) (ftail ir_law_full 3) false (fenv pl x p d c kk (G.val x) (G.ck x) (G.dr x) m g .undef .undef) (upd H a (.list [])) (retQ Q) (callX X):=by
   intro hnk
   rcases d with _ | d
   ·refine dT rfl ?_
    rcases c with _ | c
    ·refine dT rfl ?_
     rw [F_val d1 fun z=>hnk ⟨z.1,.inr z.2⟩] at h
     exact h _ s1
    ·have hc:¬ (((c+1:Nat):Int)=0):=by lia
     refine dF hc ?_
     intro al hal
     by_cases ck:G.ck x=true
     ·have hk0:G.kid x≠[]:=fun z=>hnk ⟨z,.inr ck⟩
      rw [F_chk d1 ck hk0] at h
      exact full_chk O (ih 0 c (by lia)) (by lia) (by lia) F1 hk0 hal ck fun H' s=>h H' (s1.trans s)
     ·rw [F_not d1 ck] at h
      exact full_not O (ih 0 c (by lia)) (by lia) (by lia) F1 hal (Bool.not_eq_true _ ▸ ck) fun H' s=>h H' (s1.trans s)
   ·have hd0:¬ (((d+1:Nat):Int)=0):=by lia
    refine dF hd0 ?_
    refine dF hd0 ?_
    intro al hal
    have hk0:G.kid x≠[]:=fun z=>hnk ⟨z,.inl (Nat.succ_pos d)⟩
    rw [F_dep d1 hk0] at h
    exact full_deep O (ih d c (by lia)) (by lia) (by lia) F1 hk0 hal fun H' s=>h H' (s1.trans s)
  by_cases hk0:G.kid x=[]
  ·refine bT (by rw [hk0];rfl) ?_
   have fin:(0 < d∨G.ck x=true)→vSs theTab (FW theTab n) (match ftail ir_law_full 2 with
     | .cons (.ite _ s _) _=>s
     | _=>.nil) false (fenv pl x p d c kk (G.val x) (G.ck x) (G.dr x) m g .undef .undef) (upd H a (.list [])) (retQ Q) (callX X):=by
    intro z
    have hF:=F_nil (c:=c) d1 hk0 z
    by_cases ck:G.ck x=true
    ·rw [if_pos ck] at hF;rw [hF] at h
     refine bT ck ?_
     exact bSub (h _ s1)
    ·rw [if_neg ck] at hF;rw [hF] at h
     refine bF (Bool.not_eq_true _ ▸ ck) ?_
     exact h _ s1
   by_cases hd0:0 < d
   ·have hd1:(d:Int) > 0:=Int.ofNat_lt.2 hd0
    refine dT hd1 ?_
    refine dT hd1 ?_
    exact fin (.inl hd0)
   ·have hd1:¬ (d:Int) > 0:=fun z=>hd0 (Int.ofNat_lt.1 z)
    refine dF hd1 ?_
    by_cases ck:G.ck x=true
    ·refine bT ck ?_
     exact fin (.inr ck)
    ·refine bF (Bool.not_eq_true _ ▸ ck) ?_
     exact stage2 fun z=>z.2.elim hd0 ck
  ·have e:(nats (G.kid x)).isEmpty=false:=by
    cases hh:G.kid x with
    | nil=>exact absurd hh hk0
    | cons=>rfl
   refine bF e ?_
   refine bF e ?_
   exact stage2 fun z=>hk0 z.1
 refine fw_in rfl rfl ?_
 refine row ?_
 refine⟨rfl,oT P.t ?_⟩
 by_cases p0:0 < p
 ·refine dT (Int.ofNat_lt.2 p0) ?_
  by_cases dr:G.dr x=true
  ·refine bT dr ?_
   rw [F_dr ⟨p0,dr⟩] at h
   exact h H Sub.refl
  ·refine bF (Bool.not_eq_true _ ▸ dr) ?_
   exact rest fun z=>dr z.2
 ·have p1:¬ (p:Int) > 0:=fun z=>p0 (Int.ofNat_lt.1 z)
  refine dF p1 ?_
  refine dF p1 ?_
  exact rest fun z=>p0 z.1
theorem x_full (G:Gm) (O:GOk G) (k:Nat):∀ d c,d+c=k→k≤20→FullR G d c:=by
 induction k with
 | zero=>exact fun d c e zz=>x_full0 G O d c (by lia) fun d' c' z=>absurd z (by lia)
 | succ k ih=>exact fun d c e h=>x_full0 G O d c (by lia) fun d' c' z=>ih d' c' (by lia) (by lia)
end Bn
namespace Bn
open Bm
theorem cT {p:Prop} [Decidable p] {A B:Prop} (h:p) (k:A):cnd (decide p) A B:=by rw [decide_eq_true h];exact k
theorem qT {p:Prop} [Decidable p] {Q:EQ} {H:AHeap} (h:p) (k:Q (.bool true) H):Q (.bool (decide p)) H:=by rw [decide_eq_true h];exact k
theorem qB {b:Bool} {Q:EQ} {H:AHeap} (h:b=true) (k:Q (.bool true) H):Q (.bool b) H:=by rw [h];exact k
noncomputable def lenv (pl rl d c:Nat) (v:Int) (x:Nat) (w6 w7:AV):List AV:=[.ref pl,.ref rl,.int d,.int c,.int v,.int x,w6,w7]
theorem leads_loop (G:Gm) (O:GOk G) (c d pl rl:Nat) (hdc:d+c≤20) (row:List Int) (H0:AHeap) (V0:PV H0 pl G) (hr0:H0 rl=some (.list (intsL row))) {n:Nat} (hn:d+c+1≤n) {X:SX} (r:List Int) :
  ∀ (done:List Int) (e x t:Nat) (v:Int) (H:AHeap) (w6 w7:AV) (Q:SQ),row=done++r→done.length=t→t+e=d→Lead G c e t x r v→x < G.kids.length→Sub H0 H →
   (∀ H' x' e' v' w6 w7,Sub H0 H'→row.length+e'=d→Lead G c e' row.length x' [] v'→x' < G.kids.length→Q .next (lenv pl rl d c v' x' w6 w7) H') →
   forL .rng 6 (fun ρ H K=>vSs theTab (FW theTab n) ir_law_leads_loop0 false ρ H K X) (nats (List.range' t r.length)) (lenv pl rl d c v x w6 w7) H Q:=by
 induction r with
 | nil =>
  intro done e x t v H w6 w7 Q hs ht he hL hx hH h
  have hlen:row.length=t:=by rw [hs,List.append_nil];exact ht
  exact foE (h H x e v w6 w7 hH (by rw [hlen];exact he) (by rw [hlen];exact hL) hx)
 | cons m r ih =>
  intro done e x t v H w6 w7 Q hs ht he hL hx hH h
  cases e with
  | zero=>exact hL.elim
  | succ e =>
   obtain⟨m',rfl,lg,hdr,hF,hL'⟩:=hL
   have hrl:=hH _ _ hr0
   obtain⟨tt,kk,mm,g,bs,P,rowP⟩:=(V0.mono hH).row hx
   obtain⟨y1,y2⟩:=to_lt O lg
   have hat:row[t]? = some ((m':Nat):Int):=by rw [hs,← ht,List.getElem?_append_right (Nat.le_refl _),Nat.sub_self];rfl
   have i2:∀ {K:AV→Prop},K (.int m')→vIdx (.ref rl) (.int t) H K:=fun q=>iL hrl (place_nat (by rw [ints_len];exact len_of hat) rfl) (ints_get hat) q
   have fin:vSs theTab (FW theTab n) (ftail ir_law_leads_loop0 3) false (lenv pl rl d c v x (.int t) (.ref kk)) H (aftF .rng (forL .rng 6 (fun ρ H K=>vSs theTab (FW theTab n) ir_law_leads_loop0 false ρ H K X) (nats (List.range' (t+1) r.length))) Q) X:=by
    refine i2 ?_
    refine bSub ?_
    refine iL P.k (j:=m' - 1) (place_nat (by rw [nats_len];have:=lg.1;have:=lg.2;lia) (i_pred lg.1)) (nats_get (to_some lg)) ?_
    refine bAdd ?_
    refine bSub ?_
    refine bSub ?_
    refine x_full G O (e+c) e c rfl (by lia) n (by lia) (t+1) (G.to x m') H pl _ _ _ _ _ _ (by lia) y1 (V0.mono hH) rfl rfl (by lia) rfl fun H1 s1=>?_
    refine nF hF ?_
    refine fN trivial ?_
    exact ih (done++[(m':Int)]) e (G.to x m') (t+1) (-v) H1 _ _ Q (by rw [← List.append_cons];exact hs) (by rw [List.length_append,ht];rfl) (by lia) hL' y1 (hH.trans s1) h
   refine foI (x:=.int t) (xs:=nats (List.range' (t+1) r.length)) ?_
   refine rowP ?_
   refine iT (j:=0) P.t rfl rfl ?_
   have td:¬ (t:Int)≥d:=by lia
   refine dF td ?_
   refine i2 ?_
   refine cT (Int.ofNat_le.2 lg.1) ?_
   refine oL P.k ?_
   refine dT (by rw [nats_len];exact Int.ofNat_le.2 lg.2) ?_
   refine bF rfl ?_
   by_cases t0:(t:Int) > 0
   ·refine dT t0 ?_
    refine rowP ?_
    refine iT (j:=3) P.t rfl rfl ?_
    refine bF (Bool.eq_false_iff.2 fun z=>hdr ⟨Int.ofNat_lt.1 t0,z⟩) ?_
    exact fin
   ·refine dF t0 ?_
    refine dF t0 ?_
    exact fin
theorem x_leads (G:Gm) (O:GOk G) (c d pl rl:Nat) (hd:d≤10) (hdc:d+c≤20) (row:List Int) (v:Int) (L:Lead G c d 0 0 row v) {H:AHeap} (V:PV H pl G) (hr:H rl=some (.list (intsL row))) {n:Nat} (hn:d+c+1≤n) {dz cz:Int} (ed:dz=d) (ec:cz=c) {Q X:EQ} (h:∀ H',Sub H H'→Q (.bool true) H') :
  FW theTab (n+1) false 716 [.ref pl,.ref rl,.int dz,.int cz,.int v] H Q X:=by
 subst ed;subst ec
 have hlen:=L.len
 refine fw_in rfl rfl ?_
 refine oL hr ?_
 refine rN (s:=0) (w:=row.length) rfl (by rw [ints_len];exact(Int.zero_add _).symm) (by decide) (by lia) ?_
 refine⟨rfl,leads_loop G O c d pl rl hdc row H V hr hn row [] d 0 0 v H .undef .undef _ rfl rfl (Nat.zero_add d) L O.n0 Sub.refl fun H1 x e v' w6 w7 s1 he hL hx=>?_⟩
 obtain⟨tt,kk,mm,g,bs,P,rowP⟩:=(V.mono s1).row hx
 have hr1:=s1 _ _ hr
 refine oL hr1 ?_
 by_cases c1:row.length=d
 ·have c1':((intsL row).length:Int)=d:=by rw [ints_len,c1]
  refine dT c1' ?_
  exact qT (Q:=Q) c1' (h _ s1)
 ·have c1':¬ ((intsL row).length:Int)=d:=fun z=>c1 (by rw [ints_len] at z;exact Int.ofNat.inj z)
  refine dF c1' ?_
  refine rowP ?_
  refine iT (j:=0) P.t rfl rfl ?_
  intro a ha
  have s2:Sub H1 (upd H1 a (.list [])):=Sub.new ha
  refine eqN (s2 _ _ P.k) upd_eq ?_
  by_cases c2:G.kid x=[]
  ·have e:(nats (G.kid x)).isEmpty=true:=by rw [c2];rfl
   refine bT e ?_
   exact qB (Q:=Q) e (h _ (s1.trans s2))
  ·have c3:0 < row.length∧G.dr x=true:=by
    cases e with
    | zero=>exact absurd he c1
    | succ e=>exact(hL.resolve_left (Nat.succ_ne_zero e)).resolve_left c2
   refine bF (by cases hh:G.kid x with
    | nil=>exact absurd hh c2
    | cons=>rfl) ?_
   intro b hb
   have s3:Sub (upd H1 a (.list [])) (upd (upd H1 a (.list [])) b (.list [])):=Sub.new hb
   refine neN (s3 _ _ (s2 _ _ hr1)) upd_eq ?_
   refine bT (by cases row with
    | nil=>exact absurd c3.1 (Nat.lt_irrefl 0)
    | cons=>rfl) ?_
   have s:=s2.trans s3
   obtain⟨tt,kk,mm,g,bs,P,rowP⟩:=((V.mono s1).mono s).row hx
   refine rowP ?_
   refine iT (j:=3) P.t rfl rfl ?_
   exact qB (Q:=Q) c3.2 (h _ (s1.trans s))
structure Inv (I:AHeap→AHeap→Prop):Prop where
 put:∀ R H a o,I R H→(R a≠none∨H a=none)→I (upd R a o) (upd H a o)
 sub:∀ R H,I R H→Sub R H
theorem SR.inv {A f G age σ}:Inv (SR A f G age σ):=⟨fun R H a o S h=>S.put h,fun R H S=>S.sub⟩
noncomputable def dkFs (pa:Nat) (t:Int):List (String×AV):=[("pile",.ref pa),("turn",.int t)]
structure DK (B R:AHeap) (dk pa:Nat) (t:Int):Prop where
 cell:∃ (cards:List Int) (turn:Int),R dk=some (.deck (dkFs pa turn))∧R pa=some (.list (intsL cards))∧0≤turn∧turn≤t
 b1:B dk=none
 b2:B pa=none
 sub:Sub B R
theorem DK.up {B R dk pa t t'} (D:DK B R dk pa t) (h:t≤t'):DK B R dk pa t':=by
 obtain⟨⟨cs,tu,d1,d2,d3,d4⟩,b1,b2,s⟩:=D
 exact⟨⟨cs,tu,d1,d2,d3,Int.le_trans d4 h⟩,b1,b2,s⟩
theorem kG {a:Nat} {fs:List (String×AV)} {k:String} {v:AV} {H:AHeap} {Q:AV→Prop} (h:H a=some (.deck fs)) (e:fget fs k=some v) (q:Q v):vKey (.ref a) k H Q:=by
 exact .mk h e q
theorem kS {a:Nat} {fs:List (String×AV)} {k:String} {v w:AV} {H:AHeap} {Q:AHeap→Prop} (h:H a=some (.deck fs)) (e:fget fs k=some w) (q:Q (upd H a (.deck (fset fs k v)))):vSetK (.ref a) k v H Q:=by
 exact .mk h e q
theorem Inv.none {I:AHeap→AHeap→Prop} (J:Inv I) {R H:AHeap} (h:I R H) {a:Nat} (ha:H a=none):R a=none:=sub_none (J.sub _ _ h) ha
theorem lPopI {a:Nat} {l:List Int} {y:Int} {H:AHeap} {Q:EQ} (h:H a=some (.list (intsL (l++[y])))) (q:Q (.int y) (upd H a (.list (intsL l)))):vListM a "pop" [] H Q:=by
 refine lPop h (fun z=>nomatch (List.append_eq_nil_iff.1 (List.map_eq_nil_iff.1 z)).2) ?_
 have e1:(intsL (l++[y])).dropLast=intsL l:=by rw [← ints_snoc,List.dropLast_concat]
 have e2:lget (intsL (l++[y])) ((intsL (l++[y])).length - 1)=.int y:=by
  refine ints_get ?_
  rw [ints_len,List.length_append]
  exact(List.getElem?_append_right (Nat.le_refl _)).trans (by rw [Nat.sub_self];rfl)
 rw [e1,e2];exact q
theorem x_card {I:AHeap→AHeap→Prop} (J:Inv I) {B R H:AHeap} {dk pa:Nat} {t b:Int} (hI:I R H) (D:DK B R dk pa t) (ht:t≤1000000000) (hb:0 < b) {n:Nat} {Q X:EQ}
  (h:∀ R' H' v,I R' H'→DK B R' dk pa (t+1)→0≤v→v < b→Q (.int v) H'):FW theTab (n+1) false 697 [.ref dk,.int b] H Q X:=by
 obtain⟨⟨cs,tu,d1,d2,d3,d4⟩,b1,b2,s⟩:=D
 have h1:=J.sub _ _ hI _ _ d1
 have ndp:pa≠dk:=fun z=>by rw [z,d1] at d2;cases d2
 have I1:=J.put _ _ dk (.deck (dkFs pa (tu+1))) hI (.inl (by rw [d1];exact fun z=>nomatch z))
 have g2:upd R dk (.deck (dkFs pa (tu+1))) pa=some (.list (intsL cs)):=upd_some d2 ndp
 refine fw_in rfl rfl ?_
 refine kG h1 rfl ?_
 refine bAdd ?_
 refine kS h1 rfl ?_
 refine kG (fs:=dkFs pa (tu+1)) upd_eq rfl ?_
 intro a ha
 have I2:=J.put _ _ a (.list []) I1 (.inr ha)
 have ra:=J.none I1 ha
 have q1:upd (upd R dk (.deck (dkFs pa (tu+1)))) a (.list []) dk=some (.deck (dkFs pa (tu+1))):=upd_some upd_eq (ne_nl ra upd_eq)
 have q2:=upd_some (o:=AO.list []) g2 (ne_nl ra g2)
 have z1:=J.sub _ _ I2 _ _ q1
 have z2:=J.sub _ _ I2 _ _ q2
 have sB:Sub B (upd (upd R dk (.deck (dkFs pa (tu+1)))) a (.list [])):=sub_put (sub_put s b1) (sub_none (sub_put s b1) ra)
 have le1:0≤tu+1∧tu+1≤t+1:=⟨Int.le_add_one d3,Int.add_le_add_right d4 1⟩
 have m1:∀ {z:Int},0≤z%b:=fun {z}=>Int.emod_nonneg z (Int.ne_of_gt hb)
 have m2:∀ {z:Int},z%b < b:=fun {z}=>Int.emod_lt_of_pos z hb
 refine neN z2 upd_eq ?_
 rcases List.eq_nil_or_concat cs with c | ⟨l',y,c⟩
 ·refine bF (by rw [c];rfl) ?_
  refine kG z1 rfl ?_
  refine kG z1 rfl ?_
  refine bAdd ?_
  refine bMul (by lia) (by lia) ?_
  refine bFdiv (by decide) (by decide) ?_
  refine bMod hb ?_
  exact h _ _ _ I2 ⟨⟨cs,tu+1,q1,q2,le1.1,le1.2⟩,b1,b2,sB⟩ m1 m2
 ·rw [List.concat_eq_append] at c
  subst c
  refine bT (by rw [← ints_snoc];cases intsL l' <;> rfl) ?_
  refine kG z1 rfl ?_
  refine mL z2 rfl ?_
  refine lPopI z2 ?_
  refine bMod hb ?_
  have I3:=J.put _ _ pa (.list (intsL l')) I2 (.inl (by rw [q2];exact fun z=>nomatch z))
  exact h _ _ _ I3 ⟨⟨l',tu+1,upd_some q1 ndp.symm,upd_eq,le1.1,le1.2⟩,b1,b2,sub_put sB b2⟩ m1 m2
end Bn
namespace Bn
open Bm
theorem DK.grow {B R:AHeap} {dk pa a:Nat} {t:Int} {o:AO} (D:DK B R dk pa t) (ha:R a=none):DK (upd B a o) (upd R a o) dk pa t:=by
 obtain⟨⟨cs,tu,d1,d2,d3,d4⟩,b1,b2,s⟩:=D
 have n1:=ne_nl ha d1
 have n2:=ne_nl ha d2
 refine⟨⟨cs,tu,upd_some d1 n1,upd_some d2 n2,d3,d4⟩,(upd_ne n1).trans b1,(upd_ne n2).trans b2,fun b q e=>?_⟩
 by_cases n:b=a
 ·subst n;rw [upd_eq] at e ⊢;exact e
 ·rw [upd_ne n] at e ⊢;exact s b q e
theorem DK.down {B B' R:AHeap} {dk pa:Nat} {t:Int} (D:DK B' R dk pa t) (s:Sub B B'):DK B R dk pa t:=⟨D.cell,sub_none s D.b1,sub_none s D.b2,s.trans D.sub⟩
theorem DK.setB {B R:AHeap} {dk pa a:Nat} {t:Int} {o o':AO} (D:DK B R dk pa t) (ha:B a=some o):DK (upd B a o') (upd R a o') dk pa t:=by
 obtain⟨⟨cs,tu,d1,d2,d3,d4⟩,b1,b2,s⟩:=D
 have n1:dk≠a:=fun z=>by rw [z,ha] at b1;cases b1
 have n2:pa≠a:=fun z=>by rw [z,ha] at b2;cases b2
 refine⟨⟨cs,tu,upd_some d1 n1,upd_some d2 n2,d3,d4⟩,(upd_ne n1).trans b1,(upd_ne n2).trans b2,fun b q e=>?_⟩
 by_cases n:b=a
 ·subst n;rw [upd_eq] at e ⊢;exact e
 ·rw [upd_ne n] at e ⊢;exact s b q e
theorem pick_int {l:List Int} {a:Nat} {v:Int} {H:AHeap} {Q:AV→Prop} (h:H a=some (.list (intsL l))) (h0:0≤v) (h1:v < l.length) (k:∀ g∈l,Q (.int g)):vIdx (.ref a) (.int v) H Q:=by
 obtain⟨n,rfl⟩:=Int.eq_ofNat_of_zero_le h0
 obtain⟨x,hx⟩:=getSome (Int.ofNat_lt.1 h1)
 exact inA h hx (k x (List.mem_of_getElem? hx))
theorem x_guess {I:AHeap→AHeap→Prop} (J:Inv I) {B R H:AHeap} {dk pa:Nat} {t v:Int} (hI:I R H) (D:DK B R dk pa t) (ht:t≤1000000) {n:Nat} {Q X:EQ}
  (h:∀ R' H' g,I R' H'→DK B R' dk pa (t+3)→Q (.int g) H'):FW theTab (n+2) false 747 [.ref dk,.int v] H Q X:=by
 refine fw_in rfl rfl ?_
 refine x_card J hI D (by lia) (by decide) fun R1 H1 c1 I1 D1 zz zz=>?_
 refine bAdd ?_
 refine bSub ?_
 refine x_card J I1 D1 (by lia) (by decide) fun R2 H2 c2 I2 D2 zz zz=>?_
 refine bSub ?_
 intro a ha
 have ra:=J.none I2 ha
 have I3:=J.put _ _ a (.list (intsL [v,v+c1 - 4,c2 - 25000,-32000,32000,0,10 ^ 99,-10 ^ 99])) I2 (.inr ha)
 have D3:=D2.grow (o:=.list (intsL [v,v+c1 - 4,c2 - 25000,-32000,32000,0,10 ^ 99,-10 ^ 99])) ra
 refine x_card J I3 D3 (by lia) (by decide) fun R4 H4 c4 I4 D4 g1 g2=>?_
 refine pick_int (J.sub _ _ I4 _ _ (D4.sub _ _ upd_eq)) g1 g2 fun g zz=>?_
 exact h R4 H4 g I4 ((D4.down (Sub.new (sub_none D2.sub ra))).up (by lia))
structure LawI (C:List (Nat×List AV)) (R H:AHeap):Prop where
 sub:Sub R H
 c:∀ p∈C,H p.1=some (.list p.2)∧R p.1=none
theorem LawI.inv {C}:Inv (LawI C) where
 sub:=fun R H h=>h.sub
 put:=fun R H a o h c=>by
  refine⟨fun b q e=>?_,fun p m=>?_⟩
  ·by_cases n:b=a
   ·subst n;rw [upd_eq] at e ⊢;exact e
   ·rw [upd_ne n] at e ⊢;exact h.sub b q e
  ·obtain⟨h1,h2⟩:=h.c p m
   have n:p.1≠a:=fun e=>by
    rw [e] at h1 h2
    cases c with
    | inl c=>exact c h2
    | inr c=>rw [h1] at c;cases c
   exact⟨upd_some h1 n,(upd_ne n).trans h2⟩
theorem LawI.fresh {C R H} (h:LawI C R H) {a:Nat} {o:AO} (ha:H a=none):LawI C R (upd H a o) :=
 ⟨fun b q e=>upd_some (h.sub b q e) (ne_nl ha (h.sub b q e)),fun p m=>⟨upd_some (h.c p m).1 (ne_nl ha (h.c p m).1),(h.c p m).2⟩⟩
theorem LawI.add {C R H} (h:LawI C R H) {a:Nat} {l:List AV} (ha:H a=none):LawI ((a,l)::C) R (upd H a (.list l)) :=
 ⟨(h.fresh ha).sub,fun p m=>(List.mem_cons.1 m).elim (fun e=>by subst e;exact⟨upd_eq,sub_none h.sub ha⟩) ((h.fresh ha).c p)⟩
theorem LawI.sup {C C' R H} (h:LawI C R H) (s:∀ p∈C',p∈C):LawI C' R H:=⟨h.sub,fun p m=>h.c p (s p m)⟩
theorem card_comp {α:Type} (f:α→AV) (P:α→Prop) {I:AHeap→AHeap→Prop} {B:AHeap} {dk pa:Nat} {src:Src} {elt:AV→AHeap→EQ→Prop} (hsrc:∀ R H,I R H→src.ok H)
  (step:∀ v R H t (K:EQ),I R H→DK B R dk pa t→t≤1000000→(∀ R' H' k,I R' H'→DK B R' dk pa (t+1)→P k→K (f k) H')→elt v H K) {Kf:List AV→AHeap→Prop} (xs:List AV) :
  ∀ (acc:List α) (R H:AHeap) (t:Int),t+xs.length≤1000000→I R H→DK B R dk pa t→(∀ k∈acc,P k)→(∀ R' H' (ks:List α),I R' H'→DK B R' dk pa (t+xs.length)→ks.length=acc.length+xs.length→(∀ k∈ks,P k)→Kf (ks.map f) H')→compL src elt xs (acc.map f) H Kf:=by
 induction xs with
 | nil=>exact fun acc R H t ht hI D ha h=>h R H acc hI (by rw [show t+(([]:List AV).length:Int)=t from Int.add_zero t];exact D) rfl ha
 | cons x xs ih =>
  intro acc R H t ht hI D ha h
  have e:t+((x::xs).length:Int)=t+1+xs.length:=by rw [List.length_cons];lia
  rw [e] at ht h
  refine step x R H t _ hI D (by lia) fun R' H' k I' D' pw=>⟨hsrc R' H' I',?_⟩
  have go:=ih (acc++[k]) R' H' (t+1) ht I' D' (fun y hy=>(List.mem_append.1 hy).elim (ha y) fun z=>by rw [List.mem_singleton.1 z];exact pw) fun R2 H2 ks I2 D2 hl hp=>h R2 H2 ks I2 D2 (by rw [hl,List.length_append,Nat.add_assoc];exact congrArg (acc.length + ·) (Nat.add_comm ..)) hp
  rw [List.map_append] at go
  exact go
structure Row where
 kl:Nat
 ks:List Nat
 v:Int
 c:Bool
 d:Bool
 ml:Nat
 ms:List Bool
 gl:Nat
 gs:List Int
noncomputable def Row.tup (r:Row):List AV:=[.ref r.kl,.int r.v,.bool r.c,.bool r.d,.ref r.ml,.ref r.gl]
noncomputable def Row.cells (r:Row):List (Nat×List AV):=[(r.gl,intsL r.gs),(r.ml,boolsL r.ms),(r.kl,nats r.ks)]
noncomputable def gmOf (rs:List Row):Gm:=⟨rs.map Row.ks,rs.map Row.v,rs.map Row.c,rs.map Row.d,rs.map Row.ms,rs.map Row.gs⟩
noncomputable def cellsOf (rs:List Row):List (Nat×List AV):=rs.flatMap Row.cells
theorem cells_snoc {rs:List Row} {r:Row}:∀ p∈cellsOf (rs++[r]),p∈r.cells++cellsOf rs:=fun p m=>by
 unfold cellsOf at m
 rw [List.flatMap_append] at m
 rcases List.mem_append.1 m with m | m
 ·exact List.mem_append_right _ m
 ·obtain⟨q,h1,h2⟩:=List.mem_flatMap.1 m
  rw [List.mem_singleton.1 h1] at h2
  exact List.mem_append_left _ h2
structure RowOk (count i:Nat) (r:Row):Prop where
 k:r.ks.length≤2
 y:∀ y∈r.ks,i < y∧y < count
 m:r.ms.length=r.ks.length
 g:r.gs.length=r.ks.length
 v:-20000≤r.v∧r.v≤20000
noncomputable def RowsOk (count:Nat) (rs:List Row):Prop:=∀ (i:Nat) r,rs[i]? = some r→RowOk count i r
theorem RowsOk.snoc {count rs} (h:RowsOk count rs) {r} (k:RowOk count rs.length r):RowsOk count (rs++[r]):=fun i q e=>by
 by_cases c:i < rs.length
 ·rw [List.getElem?_append_left c] at e;exact h i q e
 ·have hl:=len_of e
  rw [List.length_append] at hl
  have:i=rs.length:=Nat.le_antisymm (Nat.le_of_lt_succ hl) (Nat.not_lt.1 c)
  subst this
  rw [List.getElem?_append_right (Nat.le_refl _),Nat.sub_self] at e
  cases e;exact k
theorem gm_at {α:Type} {f:Row→α} {rs:List Row} {x:Nat} {b:α} (h:(rs.map f)[x]? = some b):∃ r,rs[x]? = some r∧f r=b:=by
 rw [List.getElem?_map] at h;exact Option.map_eq_some_iff.1 h
theorem RowsOk.ok {rs} (h:RowsOk rs.length rs) (h0:0 < rs.length) (h6:rs.length≤6):GOk (gmOf rs):=by
 have l:∀ {α:Type} {f:Row→α},(rs.map f).length=(rs.map Row.ks).length:=fun {α f}=>by rw [List.length_map,List.length_map]
 have l0:(rs.map Row.ks).length=rs.length:=List.length_map ..
 refine⟨?_,?_,l,l,l,l,l,fun x r k e1 e2=>?_,fun x r k e1 e2=>?_,fun x k e=>?_,fun v m=>?_⟩
 ·show 0 < (rs.map Row.ks).length;rw [l0];exact h0
 ·show(rs.map Row.ks).length≤6;rw [l0];exact h6
 ·obtain⟨a,a1,rfl⟩:=gm_at e1
  obtain⟨b,b1,rfl⟩:=gm_at e2
  rw [a1] at b1;cases b1;exact(h x a a1).m
 ·obtain⟨a,a1,rfl⟩:=gm_at e1
  obtain⟨b,b1,rfl⟩:=gm_at e2
  rw [a1] at b1;cases b1;exact(h x a a1).g
 ·obtain⟨a,a1,rfl⟩:=gm_at e
  refine⟨(h x a a1).k,fun y hy=>?_⟩
  show x < y∧y < (rs.map Row.ks).length
  rw [l0];exact(h x a a1).y y hy
 ·obtain⟨a,a1,rfl⟩:=List.mem_map.1 m
  obtain⟨i,hi⟩:=List.getElem?_of_mem a1
  exact(h i a hi).v
end Bn
namespace Bn
open Bm
structure DP (count:Nat) (rs:List Row) (ts:List Nat) (pl:Nat) (B:AHeap):Prop where
 pl:B pl=some (.list (refs ts))
 tups:A2 (fun t (r:Row)=>B t=some (.tup r.tup)) ts rs
 ok:RowsOk count rs
structure DS (count:Nat) (rs:List Row) (ts:List Nat) (pl dk pa:Nat) (t:Int) (B R H:AHeap):Prop where
 law:LawI (cellsOf rs) R H
 dk:DK B R dk pa t
 p:DP count rs ts pl B
noncomputable def denv (dk count pl:Nat) (v3 v4 v5 v6 v7 v8 v9:AV):List AV:=[.ref dk,.int count,.ref pl,v3,v4,v5,v6,v7,v8,v9]
noncomputable def DealK (count pl dk pa:Nat) (rs:List Row) (t:Int) (K:SQ):Prop:=∀ r ts' B' R' H' v4 v5 v6 v7 v8 v9,DS count (rs++[r]) ts' pl dk pa (t+20) B' R' H'→K .next (denv dk count pl (.int rs.length) v4 v5 v6 v7 v8 v9) H'
structure KidsOk (count i:Nat) (ks:List Nat):Prop where
 k:ks.length≤2
 y:∀ y∈ks,i < y∧y < count
section
variable {count n pl dk pa:Nat} {rs:List Row} {ts:List Nat} {B R H:AHeap} {t t2:Int} {K:SQ} {X:SX} {kl:Nat} {ks:List Nat}
theorem deal3 (P:DP count rs ts pl B) (hc:rs.length < 6) (L:LawI ((kl,nats ks)::cellsOf rs) R H) (D:DK B R dk pa t2) (ht:t≤10000) (ht2:t2≤t+8) (hk:KidsOk count rs.length ks) {val:Int} (hv:-20000≤val∧val≤20000) (h:DealK count pl dk pa rs t K) {v4 v6 v8 v9:AV} :
  vSs theTab (FW theTab (n+1)) (ftail ir_law_deal_loop0 5) false (denv dk count pl (.int rs.length) v4 (.ref kl) v6 (.int val) v8 v9) H K X:=by
 have hl2:=hk.k
 have src:∀ {C R H},LawI C R H→(kl,nats ks)∈C→H kl=some (.list (nats ks)):=fun L m=>(L.c _ m).1
 refine vO (src L (List.mem_cons_self ..)) ⟨rfl,?_⟩
 refine card_comp (I:=LawI ((kl,nats ks)::cellsOf rs)) (src:=.lst kl (nats ks)) AV.bool (fun zz=>True) (fun R H L=>src L (List.mem_cons_self ..)) (fun v R H t' K' L' D' ht' hK=>?_) (nats ks) [] R H t2 (by rw [nats_len];lia) L D (fun zz m=>nomatch m) (fun R3 H3 ms L3 D3 hl3 zz=>?_)
 ·refine x_card LawI.inv L' D' (by lia) (by decide) fun R5 H5 c5 I5 D5 g1 g2=>?_
  exact hK R5 H5 _ I5 D5 trivial
 rw [nats_len] at D3 hl3
 intro ml hml
 have L4:=L3.add (l:=boolsL ms) hml
 have m4:(kl,nats ks)∈(ml,boolsL ms)::(kl,nats ks)::cellsOf rs:=List.mem_cons_of_mem _ (List.mem_cons_self ..)
 refine vO (src L4 m4) ⟨rfl,?_⟩
 refine card_comp (I:=LawI ((ml,boolsL ms)::(kl,nats ks)::cellsOf rs)) (src:=.lst kl (nats ks)) AV.int (fun zz=>True) (fun R H L=>src L m4) (fun v R H t' K' L' D' ht' hK=>?_) (nats ks) [] R3 _ (t2+(ks.length:Int)) (by rw [nats_len];lia) L4 D3 (fun zz m=>nomatch m) (fun R5 H5 gs L5 D5 hl5 zz=>?_)
 ·refine x_card LawI.inv L' D' (by lia) (by decide) fun R5 H5 c5 I5 D5 g1 g2=>?_
  refine bSub ?_
  exact hK R5 H5 _ I5 D5 trivial
 rw [nats_len] at D5 hl5
 intro gl hgl
 have L6:=L5.add (l:=intsL gs) hgl
 refine mL (L6.sub _ _ (D5.sub _ _ P.pl)) rfl ?_
 refine x_card LawI.inv L6 D5 (by lia) (by decide) fun R7 H7 c7 L7 D7 zz zz=>?_
 refine x_card LawI.inv L7 D7 (by lia) (by decide) fun R8 H8 c8 L8 D8 zz zz=>?_
 intro tt htt
 have rt:=LawI.inv.none L8 htt
 obtain⟨r,hr⟩:∃ r:Row,r=⟨kl,ks,val,decide (c7=3),decide (c8=5),ml,ms,gl,gs⟩:=⟨_,rfl⟩
 have L9:=LawI.inv.put _ _ tt (.tup r.tup) L8 (.inr htt)
 have D9:=D8.grow (o:=.tup r.tup) rt
 have bt:=sub_none D8.sub rt
 have hp9:upd B tt (.tup r.tup) pl=some (.list (refs ts)):=upd_some P.pl (ne_nl bt P.pl)
 have hplR:=D9.sub _ _ hp9
 have L10:=LawI.inv.put _ _ pl (.list (refs (ts++[tt]))) L9 (.inl (by rw [hplR];exact fun z=>nomatch z))
 have D10:=D9.setB (o':=.list (refs (ts++[tt]))) hp9
 subst hr
 refine lAppR (L9.sub _ _ hplR) (by rw [A2.len P.tups];unfold lim;lia) ?_
 refine h _ (ts++[tt]) _ _ _ _ _ _ _ _ _ ⟨L10.sup fun p m=>?_,D10.up (by lia),upd_eq,A2.snoc (A2.mono (fun s q e=>?_) P.tups) (upd_some upd_eq (ne_nl bt P.pl).symm),P.ok.snoc ?_⟩
 ·exact cells_snoc p m
 ·exact upd_some (upd_some e (ne_nl bt e)) fun z=>by rw [z,P.pl] at e;cases e
 ·exact⟨hk.k,hk.y,hl3.trans (Nat.zero_add _),hl5.trans (Nat.zero_add _),hv⟩
theorem deal2 (P:DP count rs ts pl B) (hc:rs.length < 6) (L:LawI ((kl,nats ks)::cellsOf rs) R H) (D:DK B R dk pa t2) (ht:t≤10000) (ht2:t2≤t+4) (hk:KidsOk count rs.length ks) (h:DealK count pl dk pa rs t K) {v4 v6 v7 v8 v9:AV} :
  vSs theTab (FW theTab (n+1)) (ftail ir_law_deal_loop0 3) false (denv dk count pl (.int rs.length) v4 (.ref kl) v6 v7 v8 v9) H K X:=by
 intro a ha
 have ra:=LawI.inv.none L ha
 have L3:=LawI.inv.put _ _ a (.list (intsL [100,1200,20000])) L (.inr ha)
 have D3:=D.grow (o:=.list (intsL [100,1200,20000])) ra
 refine x_card LawI.inv L3 D3 (by lia) (by decide) fun R4 H4 c4 L4 D4 g1 g2=>?_
 have D4':=D4.down (Sub.new (sub_none D.sub ra))
 refine pick_int (L4.sub _ _ (D4.sub _ _ upd_eq)) g1 g2 fun sz hsz=>?_
 have hb:0 < sz∧sz≤20000:=by
  rcases List.mem_cons.1 hsz with e | hsz
  ·rw [e];decide
  rcases List.mem_cons.1 hsz with e | hsz
  ·rw [e];decide
  rw [List.mem_singleton.1 hsz];decide
 refine bMul (by decide) (by decide) ?_
 refine bAdd ?_
 refine x_card LawI.inv L4 D4' (by lia) (by lia) fun R5 H5 c5 L5 D5 g3 g4=>?_
 refine bSub ?_
 exact deal3 P hc L5 D5 ht (by lia) hk (by lia) h
theorem deal1 (P:DP count rs ts pl B) (hc6:count≤6) (hc:rs.length < count) (L:LawI (cellsOf rs) R H) (D:DK B R dk pa t2) (ht:t≤10000) (ht2:t2≤t+1) {m:Int} (h0:0≤m) (h2:m≤2) (h:DealK count pl dk pa rs t K) {v5 v6 v7 v8 v9:AV} :
  vSs theTab (FW theTab (n+1)) (ftail ir_law_deal_loop0 1) false (denv dk count pl (.int rs.length) (.int m) v5 v6 v7 v8 v9) H K X:=by
 obtain⟨m,rfl⟩:=Int.eq_ofNat_of_zero_le h0
 have h2:m≤2:=Int.ofNat_le.1 h2
 intro a ha
 refine bSub ?_
 by_cases c:(rs.length:Int) < (count:Int) - 1
 ·refine dT c ?_
  refine rN (s:=0) (w:=m) rfl (Int.zero_add _).symm (by decide) (by lia) ?_
  refine⟨rfl,?_⟩
  refine card_comp (I:=LawI (cellsOf rs)) (src:=.rng) (fun(k:Nat)=>AV.int k) (fun k=>rs.length < k∧k < count) (fun R H zz=>trivial) (fun v R H t' K' L' D' ht' hK=>?_) (nats (List.range' 0 m)) [] R _ t2 (by rw [nats_len,List.length_range'];lia) (L.fresh (o:=.list []) ha) D (fun zz m=>nomatch m) (fun R3 H3 ks L3 D3 hl3 hp3=>?_)
  ·refine bAdd ?_
   refine bSub ?_
   refine bSub ?_
   refine x_card LawI.inv L' D' (by lia) (by lia) fun R5 H5 c5 I5 D5 g1 g2=>?_
   obtain⟨c5,rfl⟩:=Int.eq_ofNat_of_zero_le g1
   refine bAdd ?_
   exact hK R5 H5 (rs.length+1+c5) I5 D5 ⟨by lia,by lia⟩
  ·rw [nats_len,List.length_range'] at hl3 D3
   intro kl hkl
   exact deal2 P (by lia) (L3.add (l:=nats ks) hkl) D3 ht (by lia) ⟨by rw [hl3];exact Nat.le_trans (Nat.le_of_eq (Nat.zero_add m)) h2,hp3⟩ h
 ·refine dF c ?_
  exact deal2 P (by lia) (L.add (l:=nats []) ha) D ht (by lia) ⟨Nat.zero_le _,fun zz m=>nomatch m⟩ h
theorem deal_body (hc6:count≤6) (hc:rs.length < count) (S:DS count rs ts pl dk pa t B R H) (ht:t≤10000) (h:DealK count pl dk pa rs t K) {v4 v5 v6 v7 v8 v9:AV} :
  vSs theTab (FW theTab (n+1)) ir_law_deal_loop0 false (denv dk count pl (.int rs.length) v4 v5 v6 v7 v8 v9) H K X:=by
 by_cases c:(rs.length:Int)=0
 ·refine dT c ?_
  refine x_card LawI.inv S.law S.dk (by lia) (by decide) fun R1 H1 c1 L1 D1 g1 g2=>?_
  refine bAdd ?_
  exact deal1 S.p hc6 hc L1 D1 ht (Int.le_refl _) (by lia) (by lia) h
 ·refine dF c ?_
  refine x_card LawI.inv S.law S.dk (by lia) (by decide) fun R1 H1 c1 L1 D1 g1 g2=>?_
  exact deal1 S.p hc6 hc L1 D1 ht (Int.le_refl _) g1 (by lia) h
end
theorem deal_loop (count:Nat) (hc6:count≤6) (pl dk pa:Nat) (t:Int) (ht:t≤100) (n:Nat) (X:SX) (w:Nat):∀ (rs:List Row) (ts:List Nat) (B R H:AHeap) (v3 v4 v5 v6 v7 v8 v9:AV) (Q:SQ),rs.length+w=count→DS count rs ts pl dk pa (t+20*rs.length) B R H →
  (∀ rs' ts' B' R' H' v3 v4 v5 v6 v7 v8 v9,rs'.length=count→DS count rs' ts' pl dk pa (t+20*count) B' R' H'→Q .next (denv dk count pl v3 v4 v5 v6 v7 v8 v9) H') →
  forL .rng 3 (fun ρ H K=>vSs theTab (FW theTab (n+1)) ir_law_deal_loop0 false ρ H K X) (nats (List.range' rs.length w)) (denv dk count pl v3 v4 v5 v6 v7 v8 v9) H Q:=by
 induction w with
 | zero =>
  intro rs ts B R H v3 v4 v5 v6 v7 v8 v9 Q hs S h
  rw [Nat.add_zero] at hs
  exact foE (h rs ts B R H v3 v4 v5 v6 v7 v8 v9 hs (hs ▸ S))
 | succ w ih =>
  intro rs ts B R H v3 v4 v5 v6 v7 v8 v9 Q hs S h
  refine foI (x:=.int rs.length) (xs:=nats (List.range' (rs.length+1) w)) ?_
  refine deal_body hc6 (by lia) S (by lia) fun r ts' B' R' H' v4 v5 v6 v7 v8 v9 S'=>?_
  refine fN trivial ?_
  have e:(rs++[r]).length=rs.length+1:=List.length_append
  have go:=ih (rs++[r]) ts' B' R' H' (.int rs.length) v4 v5 v6 v7 v8 v9 Q (by rw [e];lia) (by rw [e];rw [show t+20*(rs.length:Int)+20=t+20*((rs.length+1:Nat):Int) by lia] at S';exact S') h
  rw [e] at go
  exact go
theorem x_deal (dk pa:Nat) (B R H:AHeap) (t:Int) (ht:t≤99) (hs:Sub R H) (D:DK B R dk pa t) {n:Nat} {Q X:EQ}
  (h:∀ rs ts pl B' R' H',3≤rs.length→rs.length≤6→DS rs.length rs ts pl dk pa (t+200) B' R' H'→Q (.ref pl) H'):FW theTab (n+2) false 702 [.ref dk] H Q X:=by
 have L0:LawI [] R H:=⟨hs,fun zz m=>nomatch m⟩
 refine fw_in rfl rfl ?_
 refine x_card LawI.inv L0 D (by lia) (by decide) fun R1 H1 c1 L1 D1 g1 g2=>?_
 obtain⟨m,hm⟩:=Int.eq_ofNat_of_zero_le (show 0≤3+c1 by lia)
 refine bAdd (hm ▸ ?_)
 intro pl hpl
 have rp:=LawI.inv.none L1 hpl
 have L2:=LawI.inv.put _ _ pl (.list []) L1 (.inr hpl)
 have D2:=D1.grow (o:=.list []) rp
 refine rN (s:=0) (w:=m) rfl (Int.zero_add _).symm (by decide) (by lia) ?_
 refine⟨rfl,?_⟩
 refine deal_loop m (by lia) pl dk pa (t+1) (by lia) n _ m [] [] _ _ _ .undef .undef .undef .undef .undef .undef .undef _ (Nat.zero_add _) ⟨L2,D2.up (by lia),upd_eq,trivial,fun zz zz e=>nomatch e⟩ fun rs ts B' R' H' v3 v4 v5 v6 v7 v8 v9 e S=>?_
 rw [← e] at S
 exact h rs ts pl B' R' H' (by lia) (by lia) { S with dk:=S.dk.up (by lia) }
end Bn
namespace Bn
open Bm
structure NL (R R':AHeap) (l:List Nat):Prop where
 nd:l.Nodup
 new:∀ b∈l,R b=none∧R' b≠none
structure IN (I:AHeap→AHeap→Prop) (R0:AHeap) (l:List Nat) (R H:AHeap):Prop where
 i:I R H
 s:Sub R0 R
 n:NL R0 R l
section
variable {I:AHeap→AHeap→Prop} (J:Inv I) {R0 R H:AHeap} {l:List Nat} {a:Nat} {o:AO}
include J
theorem IN.nr (h:IN I R0 l R H) (ha:H a=none):R a=none:=J.none h.i ha
omit J in
theorem upd_nn {R:AHeap} {a b:Nat} {o:AO} (h:R b≠none):upd R a o b≠none:=by
 by_cases n:b=a
 ·rw [n,upd_eq];exact fun z=>nomatch z
 ·rw [upd_ne n];exact h
theorem IN.skip (h:IN I R0 l R H) (ha:H a=none):IN I R0 l (upd R a o) (upd H a o) :=
 ⟨J.put _ _ _ _ h.i (.inr ha),h.s.trans (Sub.new (h.nr J ha)),h.n.nd,fun b m=>⟨(h.n.new b m).1,upd_nn (h.n.new b m).2⟩⟩
theorem IN.add (h:IN I R0 l R H) (ha:H a=none):IN I R0 (a::l) (upd R a o) (upd H a o):=by
 have k:=h.skip J (o:=o) ha
 have ra:=h.nr J ha
 exact⟨k.i,k.s,List.nodup_cons.2 ⟨fun m=>(h.n.new a m).2 ra,h.n.nd⟩,fun b m=>(List.mem_cons.1 m).elim (fun e=>by subst e;exact⟨sub_none h.s ra,by rw [upd_eq];exact fun z=>nomatch z⟩) (k.n.new b)⟩
theorem IN.set (h:IN I R0 l R H) (m:a∈l):IN I R0 l (upd R a o) (upd H a o) :=
 ⟨J.put _ _ _ _ h.i (.inl (h.n.new a m).2),sub_put h.s (h.n.new a m).1,h.n.nd,fun b m=>⟨(h.n.new b m).1,upd_nn (h.n.new b m).2⟩⟩
end
theorem IN.start {I:AHeap→AHeap→Prop} {R H} (h:I R H):IN I R [] R H:=⟨h,Sub.refl,List.nodup_nil,fun zz m=>nomatch m⟩
theorem IN.ne {I:AHeap→AHeap→Prop} {R0 l R H} (h:IN I R0 l R H) {a b:Nat} (m:a∈l) (hb:R b=none):a≠b:=fun e=>(h.n.new a m).2 (e ▸ hb)
theorem Sub.put {B R:AHeap} (h:Sub B R) {a:Nat} {o:AO} (n:B a=none):Sub B (upd R a o):=sub_put h n
theorem mem0 {a:Nat} {l:List Nat}:a∈a::l:=List.mem_cons_self ..
theorem mem1 {a b:Nat} {l:List Nat}:a∈b::a::l:=List.mem_cons_of_mem _ mem0
theorem rep_ints {n:Nat} {v:Int}:List.replicate n (AV.int v)=intsL (List.replicate n v):=by unfold intsL;rw [List.map_replicate]
noncomputable def ttFs (cl w:Nat) (s:Nat):List (String×AV):=[("clusters",.int cl),("ways",.int w),("age",.int 0),("slots",.ref s)]
section
variable {I:AHeap→AHeap→Prop} (J:Inv I) {R0 R H:AHeap} {l:List Nat} {a:Nat}
include J
theorem x_tt_init (h:IN I R0 l R H) (ha:H a=none) {cl w:Nat} (h1:1≤cl∧cl≤2) (h2:1≤w∧w≤2) {n:Nat} {Q X:EQ}
  (k:∀ R' H' s,IN I R0 (s::a::l) R' H'→Sub R R'→R' a=some (.obj 284 (ttFs cl w s))→R' s=some (.list (intsL (List.replicate (cl*w) 0)))→Q .none H') :
  FW theTab (n+1) false 246 [.ref a,.int cl,.int w] (upd H a (.obj 284 [])) Q X:=by
 have ra:=h.nr J ha
 have hcw:((cl:Int)*(w:Int))=((cl*w:Nat):Int):=(Int.natCast_mul ..).symm
 have hle:cl*w≤2*2:=Nat.mul_le_mul h1.2 h2.2
 refine fw_in rfl rfl ?_
 refine dF (by lia) ?_
 refine dF (by lia) ?_
 refine psU rfl (by decide) ?_
 refine psU rfl (by show 1 < 100;decide) ?_
 refine psU rfl (by show 2 < 100;decide) ?_
 have h3:=h.add J (o:=.obj 284 [("clusters",.int cl),("ways",.int w),("age",.int 0)]) ha
 intro z hz
 have h4:=h3.skip J (o:=.list [.int 0]) hz
 refine bMul (by lia) (by lia) ?_
 refine mulL upd_eq (by rw [hcw];lia) fun s hs=>?_
 rw [hcw,Int.toNat_natCast,rep_ints] at *
 have h5:=h4.add J (o:=.list (intsL (List.replicate (cl*w) 0))) hs
 have az:=h3.ne mem0 (h3.nr J hz)
 have as:=h4.ne mem0 (h4.nr J hs)
 refine aS (fs:=[("clusters",.int cl),("ways",.int w),("age",.int 0)]) (upd_some (upd_some upd_eq az) as) rfl (by show 3 < 100;decide) ?_
 exact k _ _ s (h5.set J (o:=.obj 284 (ttFs cl w s)) mem1) (sub_put ((Sub.new ra).trans ((Sub.new (h3.nr J hz)).trans (Sub.new (h4.nr J hs)))) ra) upd_eq (upd_some upd_eq as.symm)
theorem x_kl_init (h:IN I R0 l R H) (ha:H a=none) {n:Nat} {Q X:EQ}
  (k:∀ R' H' k1 k2,IN I R0 (k2::k1::a::l) R' H'→Sub R R'→R' a=some (.obj 389 [("plies",.int 3),("first",.ref k1),("second",.ref k2)])→R' k1=some (.list (intsL [0,0,0]))→R' k2=some (.list (intsL [0,0,0]))→Q .none H') :
  FW theTab (n+1) false 365 [.ref a,.int 3] (upd H a (.obj 389 [])) Q X:=by
 have ra:=h.nr J ha
 refine fw_in rfl rfl ?_
 refine psU rfl (by decide) ?_
 have h1:=h.add J (o:=.obj 389 [("plies",.int 3)]) ha
 intro z hz
 have h2:=h1.skip J (o:=.list [.int 0]) hz
 refine mulL upd_eq (by decide) fun k1 hk1=>?_
 have h3:=h2.add J (o:=.list (intsL [0,0,0])) hk1
 have n1:=h1.ne mem0 (h1.nr J hz)
 have n2:=h2.ne mem0 (h2.nr J hk1)
 refine aS (fs:=[("plies",.int 3)]) (upd_some (upd_some upd_eq n1) n2) rfl (by show 1 < 100;decide) ?_
 have h4:=h3.set J (o:=.obj 389 [("plies",.int 3),("first",.ref k1)]) mem1
 intro y hy
 have h5:=h4.skip J (o:=.list [.int 0]) hy
 refine mulL upd_eq (by decide) fun k2 hk2=>?_
 have h6:=h5.add J (o:=.list (intsL [0,0,0])) hk2
 have n3:=h4.ne mem1 (h4.nr J hy)
 have n4:=h5.ne mem1 (h5.nr J hk2)
 have n5:=h4.ne mem0 (h4.nr J hy)
 have n6:=h5.ne mem0 (h5.nr J hk2)
 refine aS (fs:=[("plies",.int 3),("first",.ref k1)]) (upd_some (upd_some upd_eq n3) n4) rfl (by show 2 < 100;decide) ?_
 refine k _ _ k1 k2 (h6.set J (o:=.obj 389 [("plies",.int 3),("first",.ref k1),("second",.ref k2)]) (List.mem_cons_of_mem _ mem1)) ?_ upd_eq ?_ (upd_some upd_eq n4.symm)
 ·exact sub_put ((Sub.put ((Sub.new ra).trans ((Sub.new (h1.nr J hz)).trans (Sub.new (h2.nr J hk1)))) ra).trans ((Sub.new (h4.nr J hy)).trans (Sub.new (h5.nr J hk2)))) ra
 ·exact upd_some (upd_some (upd_some (upd_some upd_eq n2.symm) n5) n6) n2.symm
theorem x_hs_init (h:IN I R0 l R H) (ha:H a=none) {n:Nat} {Q X:EQ}
  (k:∀ R' H' d,IN I R0 (d::a::l) R' H'→Sub R R'→R' a=some (.obj 347 [("limit",.int 400),("scores",.ref d)])→R' d=some (.idict [])→Q .none H') :
  FW theTab (n+1) false 316 [.ref a,.int 400] (upd H a (.obj 347 [])) Q X:=by
 have ra:=h.nr J ha
 refine fw_in rfl rfl ?_
 refine dF (by decide) ?_
 refine psU rfl (by decide) ?_
 have h1:=h.add J (o:=.obj 347 [("limit",.int 400)]) ha
 intro d hd
 have h2:=h1.add J (o:=.idict []) hd
 have n1:=h1.ne mem0 (h1.nr J hd)
 refine psW n1 rfl (by show 1 < 100;decide) ?_
 exact k _ _ d (h2.set J (o:=.obj 347 [("limit",.int 400),("scores",.ref d)]) mem1) (sub_put ((Sub.new ra).trans (Sub.new (h1.nr J hd))) ra) upd_eq (upd_some upd_eq n1.symm)
noncomputable def cxFs (g:Nat) (tv kv hv:AV) (calm most:Int):List (String×AV):=[("game",.ref g),("table",tv),("killers",kv),("history",hv),("qdepth",.int calm),("is_exact",.bool true),("max_nodes",.int most),("nodes",.int 0),("made",.int 0)]
theorem x_cx_init (h:IN I R0 l R H) (ha:H a=none) {g:Nat} {tv kv hv:AV} (t1:okv tv) (t2:okv kv) (t3:okv hv) {calm most:Int} {n:Nat} {Q X:EQ}
  (k:∀ R' H' gl l0,IN I R0 (gl::l0::a::l) R' H'→Sub R R'→R' a=some (.obj 137 (cxFs g tv kv hv calm most++[("lines",.ref gl)]))→R' gl=some (.list (refs [l0]))→R' l0=some (.list (intsL []))→Q .none H') :
  FW theTab (n+1) false 127 [.ref a,.ref g,tv,kv,hv,.int calm,.bool true,.int most] (upd H a (.obj 137 [])) Q X:=by
 have ra:=h.nr J ha
 refine fw_in rfl rfl ?_
 refine psU rfl (by decide) ?_
 refine sLoc rfl rfl t1 ?_
 refine psU rfl (by show 1 < 100;decide) ?_
 refine sLoc rfl rfl t2 ?_
 refine psU rfl (by show 2 < 100;decide) ?_
 refine sLoc rfl rfl t3 ?_
 refine psU rfl (by show 3 < 100;decide) ?_
 refine psU rfl (by show 4 < 100;decide) ?_
 refine psU rfl (by show 5 < 100;decide) ?_
 refine psU rfl (by show 6 < 100;decide) ?_
 refine psU rfl (by show 7 < 100;decide) ?_
 refine psU rfl (by show 8 < 100;decide) ?_
 have h1:=h.add J (o:=.obj 137 (cxFs g tv kv hv calm most)) ha
 intro l0 hl0
 have h2:=h1.add J (o:=.list []) hl0
 intro gl hgl
 have h3:=h2.add J (o:=.list [.ref l0]) hgl
 have n1:=h1.ne mem0 (h1.nr J hl0)
 have n2:=h2.ne mem1 (h2.nr J hgl)
 have n3:=h2.ne mem0 (h2.nr J hgl)
 refine aS (fs:=cxFs g tv kv hv calm most) (upd_some (upd_some upd_eq n1) n2) rfl (by show 9 < 100;decide) ?_
 exact k _ _ gl l0 (h3.set J (o:=.obj 137 (cxFs g tv kv hv calm most++[("lines",.ref gl)])) (List.mem_cons_of_mem _ mem1)) (sub_put ((Sub.new ra).trans ((Sub.new (h1.nr J hl0)).trans (Sub.new (h2.nr J hgl)))) ra) upd_eq (upd_some upd_eq n2.symm) (upd_some (upd_some upd_eq n3) n1.symm)
noncomputable def gmFs (c0 c1 c2 c3 c4 c5:Nat):List (String×AV):=[("children",.ref c0),("values",.ref c1),("checks",.ref c2),("draws",.ref c3),("noisy_rows",.ref c4),("gain_rows",.ref c5)]
theorem x_tg_init (h:IN I R0 l R H) (ha:H a=none) {c0 c1 c2 c3 c4 c5:Nat} {n:Nat} {Q X:EQ}
  (k:∀ R' H' gp,IN I R0 (gp::a::l) R' H'→Sub R R'→R' a=some (.obj 686 (gmFs c0 c1 c2 c3 c4 c5++[("path",.ref gp)]))→R' gp=some (.list (nats [0]))→Q .none H') :
  FW theTab (n+1) false 608 [.ref a,.ref c0,.ref c1,.ref c2,.ref c3,.ref c4,.ref c5] (upd H a (.obj 686 [])) Q X:=by
 have ra:=h.nr J ha
 refine fw_in rfl rfl ?_
 refine psU rfl (by decide) ?_
 refine psU rfl (by show 1 < 100;decide) ?_
 refine psU rfl (by show 2 < 100;decide) ?_
 refine psU rfl (by show 3 < 100;decide) ?_
 refine psU rfl (by show 4 < 100;decide) ?_
 refine psU rfl (by show 5 < 100;decide) ?_
 have h1:=h.add J (o:=.obj 686 (gmFs c0 c1 c2 c3 c4 c5)) ha
 intro gp hgp
 have h2:=h1.add J (o:=.list [.int 0]) hgp
 have n1:=h1.ne mem0 (h1.nr J hgp)
 refine psW (fs:=gmFs c0 c1 c2 c3 c4 c5) n1 rfl (by show 6 < 100;decide) ?_
 exact k _ _ gp (h2.set J (o:=.obj 686 (gmFs c0 c1 c2 c3 c4 c5++[("path",.ref gp)])) mem1) (sub_put ((Sub.new ra).trans (Sub.new (h1.nr J hgp))) ra) upd_eq (upd_some upd_eq n1.symm)
end
end Bn
namespace Bn
open Bm
theorem pick_inj {l:List Nat} (h:l.Nodup) {i j:Nat} (hi:i < l.length) (hj:j < l.length) (e:l.getD i 0=l.getD j 0):i=j:=by
 have a:∀ {k},(hk:k < l.length)→l.getD k 0=l[k]:=fun hk=>by rw [List.getD_eq_getElem?_getD,List.getElem?_eq_getElem hk];rfl
 rw [a hi,a hj] at e
 exact(List.getElem_inj h).1 e
theorem pick_mem {l:List Nat} {i:Nat} (h:i < l.length):l.getD i 0∈l:=by
 rw [List.getD_eq_getElem?_getD,List.getElem?_eq_getElem h];exact List.getElem_mem h
theorem nd_pick {l:List Nat} (h:l.Nodup) {is:List Nat}:is.Nodup→(∀ i∈is,i < l.length)→(is.map fun i=>l.getD i 0).Nodup:=by
 induction is with
 | nil=>exact fun zz zz=>List.nodup_nil
 | cons i is ih =>
  intro hi hb
  rw [List.nodup_cons] at hi
  refine List.nodup_cons.2 ⟨fun m=>?_,ih hi.2 fun j hj=>hb j (List.mem_cons_of_mem _ hj)⟩
  obtain⟨j,hj,e⟩:=List.mem_map.1 m
  have:=pick_inj h (hb j (List.mem_cons_of_mem _ hj)) (hb i (List.mem_cons_self ..)) e
  exact hi.1 (this ▸ hj)
theorem IN.pick {I:AHeap→AHeap→Prop} {R0 l R H} (h:IN I R0 l R H) {is:List Nat} (hi:is.Nodup) {n:Nat} (hn:l.length=n) (hb:∀ i∈is,i < n):IN I R0 (is.map fun i=>l.getD i 0) R H :=
 ⟨h.i,h.s,nd_pick h.n.nd hi fun i m=>by rw [hn];exact hb i m,fun b m=>by
  obtain⟨i,i1,rfl⟩:=List.mem_map.1 m
  exact h.n.new _ (pick_mem (by rw [hn];exact hb i i1))⟩
noncomputable def sg0 (f:Cf):Sg:=⟨[0],(match f.tab with | some (cl,w)=>List.replicate (cl*w) 0 | none=>[]),[0,0,0],[0,0,0],[],0,0,[[]]⟩
theorem a2_map {α β γ δ:Type} {P:α→β→Prop} {f:γ→α} {g:γ→δ} {h:δ→β} {rs:List γ} (k:∀ r∈rs,P (f r) (h (g r))):A2 P (rs.map f) ((rs.map g).map h):=by
 induction rs with
 | nil=>trivial
 | cons r rs ih=>exact⟨k r (List.mem_cons_self ..),ih fun q m=>k q (List.mem_cons_of_mem _ m)⟩
theorem map_a2 {α β γ δ:Type} {P:α→β→Prop} {f:γ→α} {g:γ→δ} {h:δ→β} {rs:List γ} (k:A2 P (rs.map f) ((rs.map g).map h)):∀ r∈rs,P (f r) (h (g r)):=by
 induction rs with
 | nil=>exact fun zz m=>nomatch m
 | cons r rs ih=>exact fun q m=>(List.mem_cons.1 m).elim (fun e=>e ▸ k.1) (ih k.2 q)
theorem cells_mem {rs:List Row} {r:Row} (m:r∈rs) {p} (h:p∈r.cells):p∈cellsOf rs:=List.mem_flatMap.2 ⟨r,m,h⟩
noncomputable def Ad.fix (A:Ad) (l0:Nat):List Nat:=[A.g,A.ch,A.va,A.ck,A.dr,A.no,A.ga,A.t,A.kl,A.hs,l0]
structure CtxH (A:Ad) (f:Cf) (rs:List Row) (l0:Nat) (R:AHeap):Prop where
 game:R A.g=some (.obj 686 (gameFs A))
 ch:R A.ch=some (.list (refs (rs.map Row.kl)))
 va:R A.va=some (.list (intsL (rs.map Row.v)))
 ck:R A.ck=some (.list (boolsL (rs.map Row.c)))
 dr:R A.dr=some (.list (boolsL (rs.map Row.d)))
 no:R A.no=some (.list (refs (rs.map Row.ml)))
 ga:R A.ga=some (.list (refs (rs.map Row.gl)))
 tab:∀ cl w,f.tab=some (cl,w)→R A.t=some (.obj 284 (tabFs A cl w 0))∧R A.ts=some (.list (intsL (List.replicate (cl*w) 0)))
 kil:f.kh=true→R A.kl=some (.obj 389 [("plies",.int 3),("first",.ref A.k1),("second",.ref A.k2)])
 k1:f.kh=true→R A.k1=some (.list (intsL [0,0,0]))
 k2:f.kh=true→R A.k2=some (.list (intsL [0,0,0]))
 his:f.kh=true→R A.hs=some (.obj 347 [("limit",.int 400),("scores",.ref A.hd)])
 hd:f.kh=true→R A.hd=some (.idict [])
 ctx:R A.c=some (.obj 137 (ctxFs A f (sg0 f)))
 path:R A.gp=some (.list (nats [0]))
 lines:R A.gl=some (.list (refs [l0]))
 l0:R l0=some (.list (intsL []))
structure AdR (A:Ad) (rs:List Row):Prop where
 ch:A.chR=rs.map Row.kl
 no:A.noR=rs.map Row.ml
 ga:A.gaR=rs.map Row.gl
theorem mkSR {A:Ad} {f:Cf} {rs:List Row} {R R' H':AHeap} {l is js:List Nat} {l0 n:Nat} (h:IN (LawI (cellsOf rs)) R l R' H') (hn:l.length=n) (hi:is.Nodup) (hb:∀ i∈is,i < n) (hj:∀ j∈js,j < n∧j∉is) (hch:A.chg=is.map fun i=>l.getD i 0) (hfx:A.fix l0=js.map fun i=>l.getD i 0)
  (a:AdR A rs) (C:CtxH A f rs l0 R'):SR A f (gmOf rs) 0 (sg0 f) R H':=by
 subst hn
 have chg:∀ b∈A.chg,R b=none∧R' b≠none:=fun b m=>by
  rw [hch] at m
  obtain⟨j,j1,rfl⟩:=List.mem_map.1 m
  exact h.n.new _ (pick_mem (hb j j1))
 have up:∀ {b o},R' b=some o→H' b=some o:=fun e=>h.i.sub _ _ e
 have F:∀ {b o},b∈A.fix l0→R' b=some o→H' b=some o∧Fo A R b:=fun {b o} m e=>by
  rw [hfx] at m
  obtain⟨j,j1,rfl⟩:=List.mem_map.1 m
  obtain⟨j2,j3⟩:=hj j j1
  refine⟨up e,fun m=>?_,(h.n.new _ (pick_mem j2)).1⟩
  rw [hch] at m
  obtain⟨i,i1,i2⟩:=List.mem_map.1 m
  exact j3 (pick_inj h.n.nd (hb i i1) j2 i2 ▸ i1)
 have S:∀ {p},p∈cellsOf rs→H' p.1=some (.list p.2)∧Fo A R p.1:=fun {p} m=>by
  obtain⟨h1,h2⟩:=h.i.c p m
  exact⟨h1,fun m=>(chg _ m).2 h2,sub_none h.s h2⟩
 have m1:∀ {a b:Nat} {l:List Nat},a∈l→a∈b::l:=fun m=>List.mem_cons_of_mem _ m
 refine⟨⟨F mem0 C.game,?_,F (m1 mem1) C.va,F (m1 (m1 mem1)) C.ck,F (m1 (m1 (m1 mem1))) C.dr,?_,?_,?_,?_,?_,fun cl w e=>F (m1 (m1 (m1 (m1 (m1 (m1 mem1)))))) (C.tab cl w e).1,fun e=>F (m1 (m1 (m1 (m1 (m1 (m1 (m1 mem1))))))) (C.kil e),fun e=>F (m1 (m1 (m1 (m1 (m1 (m1 (m1 (m1 mem1)))))))) (C.his e)⟩,
  ⟨up C.ctx,up C.path,⟨[l0],up C.lines,F (m1 (m1 (m1 (m1 (m1 (m1 (m1 (m1 (m1 mem1))))))))) C.l0,trivial⟩,fun e=>?_,fun e=>up (C.k1 e),fun e=>up (C.k2 e),fun e=>up (C.hd e)⟩,by rw [hch];exact nd_pick h.n.nd hi hb,fun b m=>⟨fun e=>?_,(chg b m).1⟩,h.s.trans h.i.sub⟩
 ·rw [a.ch];exact F mem1 C.ch
 ·rw [a.no];exact F (m1 (m1 (m1 (m1 mem1)))) C.no
 ·rw [a.ga];exact F (m1 (m1 (m1 (m1 (m1 mem1))))) C.ga
 ·rw [a.ch];exact a2_map fun r m=>S (cells_mem m (p:=(r.kl,nats r.ks)) (List.mem_cons_of_mem _ (List.mem_cons_of_mem _ (List.mem_cons_self ..))))
 ·rw [a.no];exact a2_map fun r m=>S (cells_mem m (p:=(r.ml,boolsL r.ms)) (List.mem_cons_of_mem _ (List.mem_cons_self ..)))
 ·rw [a.ga];exact a2_map fun r m=>S (cells_mem m (p:=(r.gl,intsL r.gs)) (List.mem_cons_self ..))
 ·obtain⟨⟨cl,w⟩,e⟩:=Option.isSome_iff_exists.1 e
  unfold sg0;rw [e];exact up (C.tab cl w e).2
 ·cases q:R' b with
  | none=>exact(chg b m).2 q
  | some o=>rw [up q] at e;cases e
theorem col_in {n:Nat} {pl j:Nat} {i:Int} {g:Row→AV} (p:place i 6=some j) (hg:∀ r:Row,lget r.tup j=g r) {all:List AV} {ρ:List AV} {H:AHeap} {K:List AV→AHeap→Prop} (hp:H pl=some (.list all)) (ts:List Nat):∀ (rs:List Row) (acc:List AV),A2 (fun t (r:Row)=>H t=some (.tup r.tup)) ts rs→K (acc++rs.map g) H →
  compL (.lst pl all) (fun v H K=>vE theTab false (FW theTab n false) (.idx (.loc 0) (.loc 1)) (v::.int i::ρ) H K (fun zz zz=>False)) (refs ts) acc H K:=by
 induction ts with
 | nil =>
  intro rs acc hT h
  cases rs with
  | nil=>rw [List.map_nil,List.append_nil] at h;exact h
  | cons=>exact hT.elim
 | cons t ts ih =>
  intro rs acc hT h
  cases rs with
  | nil=>exact hT.elim
  | cons r rs =>
   refine iT hT.1 p (hg r) ⟨hp,?_⟩
   exact ih rs (acc++[g r]) hT.2 (by rw [← List.append_cons];exact h)
section
variable {I:AHeap→AHeap→Prop} (J:Inv I) {R0 R H:AHeap} {l:List Nat} {pl:Nat} {ts:List Nat} {rs:List Row}
include J
omit J in
theorem x_col (hp:H pl=some (.list (refs ts))) (hT:A2 (fun t (r:Row)=>H t=some (.tup r.tup)) ts rs) {n j:Nat} {i:Int} {g:Row→AV} (p:place i 6=some j) (hg:∀ r:Row,lget r.tup j=g r) {ρ:List AV} {K:List AV→AHeap→Prop} (k:K (rs.map g) H) :
  vOver (.ref pl) H fun src xs=>false=false∧compL src (fun v H K=>vE theTab false (FW theTab n false) (.idx (.loc 0) (.loc 1)) (v::.int i::ρ) H K (fun zz zz=>False)) xs [] H K :=
 vO hp ⟨rfl,col_in p hg hp ts rs [] hT k⟩
structure GmH (rs:List Row) (R:AHeap) (g gp c0 c1 c2 c3 c4 c5:Nat):Prop where
 g:R g=some (.obj 686 (gmFs c0 c1 c2 c3 c4 c5++[("path",.ref gp)]))
 gp:R gp=some (.list (nats [0]))
 c0:R c0=some (.list (refs (rs.map Row.kl)))
 c1:R c1=some (.list (intsL (rs.map Row.v)))
 c2:R c2=some (.list (boolsL (rs.map Row.c)))
 c3:R c3=some (.list (boolsL (rs.map Row.d)))
 c4:R c4=some (.list (refs (rs.map Row.ml)))
 c5:R c5=some (.list (refs (rs.map Row.gl)))
omit J in
theorem compI {src:Src} {elt:AV→AHeap→EQ→Prop} {x:AV} {xs acc:List AV} {H:AHeap} {K:List AV→AHeap→Prop} (h:elt x H fun w H'=>src.ok H'∧compL src elt xs (acc++[w]) H' K):compL src elt (x::xs) acc H K:=h
theorem x_game (h:IN I R0 l R H) (hp:R pl=some (.list (refs ts))) (hT:A2 (fun t (r:Row)=>R t=some (.tup r.tup)) ts rs) {n:Nat} {Q X:EQ}
  (k:∀ R' H' g gp c0 c1 c2 c3 c4 c5 cl,IN I R0 (gp::g::cl::c5::c4::c3::c2::c1::c0::l) R' H'→Sub R R'→GmH rs R' g gp c0 c1 c2 c3 c4 c5→Q (.ref g) H') :
  FW theTab (n+2) false 721 [.ref pl] H Q X:=by
 have G:∀ {R1 H1 l1 a o},IN I R0 l1 R1 H1→H1 a=none→Sub R1 (upd R1 a o):=fun h e=>Sub.new (h.nr J e)
 have P:∀ {R1 H1 l1},IN I R0 l1 R1 H1→Sub R R1→H1 pl=some (.list (refs ts)):=fun h s=>J.sub _ _ h.i _ _ (s _ _ hp)
 have T:∀ {R1 H1 l1},IN I R0 l1 R1 H1→Sub R R1→A2 (fun t (r:Row)=>H1 t=some (.tup r.tup)) ts rs:=fun h s=>A2.mono (fun zz zz e=>J.sub _ _ h.i _ _ (s _ _ e)) hT
 refine fw_in rfl rfl ?_
 refine rN (s:=0) (w:=6) rfl rfl (by decide) (by decide) ?_
 refine⟨rfl,?_⟩
 refine compI (x:=.int ((0:Nat):Int)) (xs:=nats (List.range' 1 5)) ?_
 refine x_col (P h Sub.refl) (T h Sub.refl) (i:=((0:Nat):Int)) (j:=0) (g:=fun r=>.ref r.kl) rfl (fun zz=>rfl) ?_
 intro c0 n0
 have h0:=h.add J (o:=.list (rs.map fun r=>.ref r.kl)) n0
 refine⟨trivial,?_⟩
 have s0:=G (o:=.list (rs.map fun r=>.ref r.kl)) h n0
 refine compI (x:=.int ((1:Nat):Int)) (xs:=nats (List.range' 2 4)) ?_
 refine x_col (P h0 s0) (T h0 s0) (i:=((1:Nat):Int)) (j:=1) (g:=fun r=>.int r.v) rfl (fun zz=>rfl) ?_
 intro c1 n1
 have h1:=h0.add J (o:=.list (rs.map fun r=>.int r.v)) n1
 refine⟨trivial,?_⟩
 have t1:=G (o:=.list (rs.map fun r=>.int r.v)) h0 n1
 have s1:=s0.trans t1
 refine compI (x:=.int ((2:Nat):Int)) (xs:=nats (List.range' 3 3)) ?_
 refine x_col (P h1 s1) (T h1 s1) (i:=((2:Nat):Int)) (j:=2) (g:=fun r=>.bool r.c) rfl (fun zz=>rfl) ?_
 intro c2 n2
 have h2:=h1.add J (o:=.list (rs.map fun r=>.bool r.c)) n2
 refine⟨trivial,?_⟩
 have t2:=G (o:=.list (rs.map fun r=>.bool r.c)) h1 n2
 have s2:=s1.trans t2
 refine compI (x:=.int ((3:Nat):Int)) (xs:=nats (List.range' 4 2)) ?_
 refine x_col (P h2 s2) (T h2 s2) (i:=((3:Nat):Int)) (j:=3) (g:=fun r=>.bool r.d) rfl (fun zz=>rfl) ?_
 intro c3 n3
 have h3:=h2.add J (o:=.list (rs.map fun r=>.bool r.d)) n3
 refine⟨trivial,?_⟩
 have t3:=G (o:=.list (rs.map fun r=>.bool r.d)) h2 n3
 have s3:=s2.trans t3
 refine compI (x:=.int ((4:Nat):Int)) (xs:=nats (List.range' 5 1)) ?_
 refine x_col (P h3 s3) (T h3 s3) (i:=((4:Nat):Int)) (j:=4) (g:=fun r=>.ref r.ml) rfl (fun zz=>rfl) ?_
 intro c4 n4
 have h4:=h3.add J (o:=.list (rs.map fun r=>.ref r.ml)) n4
 refine⟨trivial,?_⟩
 have t4:=G (o:=.list (rs.map fun r=>.ref r.ml)) h3 n4
 have s4:=s3.trans t4
 refine compI (x:=.int ((5:Nat):Int)) (xs:=nats (List.range' 6 0)) ?_
 refine x_col (P h4 s4) (T h4 s4) (i:=((5:Nat):Int)) (j:=5) (g:=fun r=>.ref r.gl) rfl (fun zz=>rfl) ?_
 intro c5 n5
 have h5:=h4.add J (o:=.list (rs.map fun r=>.ref r.gl)) n5
 refine⟨trivial,?_⟩
 have t5:=G (o:=.list (rs.map fun r=>.ref r.gl)) h4 n5
 have s5:=s4.trans t5
 intro cl n6
 have h6:=h5.add J (o:=.list [.ref c0,.ref c1,.ref c2,.ref c3,.ref c4,.ref c5]) n6
 have t6:=G (o:=.list [.ref c0,.ref c1,.ref c2,.ref c3,.ref c4,.ref c5]) h5 n6
 refine iL (j:=0) upd_eq rfl rfl ?_
 refine iL (j:=1) upd_eq rfl rfl ?_
 refine iL (j:=2) upd_eq rfl rfl ?_
 refine iL (j:=3) upd_eq rfl rfl ?_
 refine iL (j:=4) upd_eq rfl rfl ?_
 refine iL (j:=5) upd_eq rfl rfl ?_
 intro g hg
 refine x_tg_init J h6 hg fun R7 H7 gp h7 s7 f1 f2=>?_
 have s6:=t6.trans s7
 have u5:=t5.trans s6
 have u4:=t4.trans u5
 have u3:=t3.trans u4
 have u2:=t2.trans u3
 have M:∀ {α:Type} {f:Row→α} {g:α→AV},(rs.map fun r=>g (f r))=(rs.map f).map g:=fun {α f g}=>(List.map_map ..).symm
 exact k R7 H7 g gp c0 c1 c2 c3 c4 c5 cl h7 (s5.trans s6) ⟨f1,f2,(t1.trans u2) _ _ (upd_eq.trans (by rw [M];rfl)),u2 _ _ (upd_eq.trans (by rw [M (g:=AV.int)];rfl)),u3 _ _ (upd_eq.trans (by rw [M (g:=AV.bool)];rfl)),u4 _ _ (upd_eq.trans (by rw [M (g:=AV.bool)];rfl)),u5 _ _ (upd_eq.trans (by rw [M (g:=AV.ref)];rfl)),s6 _ _ (upd_eq.trans (by rw [M (g:=AV.ref)];rfl))⟩
end
end Bn
namespace Bn
open Bm
noncomputable def tbl (k:Nat):Option (Nat×Nat):=if k / 2=1 then some (1,1) else if k / 2=2 then some (2,2) else none
noncomputable def cf (tools:Nat) (calm:Int):Cf:=⟨tbl tools,decide (tools%2=1),calm,0⟩
theorem sg0_ok {G:Gm} {c:Nat} {tools:Nat} {calm:Int}:SOk G c (cf tools calm) (sg0 (cf tools calm)):=by
 refine⟨fun cl w e=>?_,fun zz=>⟨rfl,rfl,⟨List.nodup_nil,(fun zz m=>nomatch (show _∈[] from m)),(fun zz m=>nomatch (show _∈[] from m))⟩⟩,by show 1≤4;decide⟩
 have e':tbl tools=some (cl,w):=e
 have es:(sg0 (cf tools calm)).slots=List.replicate (cl*w) 0:=by
  show(match tbl tools with | some (cl,w)=>List.replicate (cl*w) (0:Int) | none=>[])=_
  rw [e']
 have hcw:(cl=1∧w=1)∨(cl=2∧w=2):=by
  unfold tbl at e'
  split at e'
  ·cases e';exact .inl ⟨rfl,rfl⟩
  ·split at e'
   ·cases e';exact .inr ⟨rfl,rfl⟩
   ·cases e'
 rw [es]
 refine⟨⟨e,by lia,by lia,by lia,by lia,List.length_replicate ..⟩,fun q m=>?_⟩
 have:=List.eq_of_mem_replicate m
 subst this
 exact⟨by decide,fun z=>absurd rfl z⟩
theorem sg0_at {f:Cf}:At (sg0 f) 0 0:=⟨rfl,rfl,⟨rfl,rfl⟩⟩
theorem ctx_fin {A:Ad} {f:Cf} {rs:List Row} {l0:Nat} {R:AHeap} {v4 kv hv:AV} (M:GmH rs R A.g A.gp A.ch A.va A.ck A.dr A.no A.ga) (tab:∀ cl w,f.tab=some (cl,w)→R A.t=some (.obj 284 (ttFs cl w A.ts))∧R A.ts=some (.list (intsL (List.replicate (cl*w) 0))))
  (kil:f.kh=true→R A.kl=some (.obj 389 [("plies",.int 3),("first",.ref A.k1),("second",.ref A.k2)])∧R A.k1=some (.list (intsL [0,0,0]))∧R A.k2=some (.list (intsL [0,0,0]))∧R A.hs=some (.obj 347 [("limit",.int 400),("scores",.ref A.hd)])∧R A.hd=some (.idict []))
  (ev:tabV A f=v4) (ek:kilV A f=kv) (eh:hisV A f=hv) (fc:R A.c=some (.obj 137 (cxFs A.g v4 kv hv f.calm f.most++[("lines",.ref A.gl)]))) (fgl:R A.gl=some (.list (refs [l0]))) (fl0:R l0=some (.list (intsL []))):CtxH A f rs l0 R:=by
 subst ev;subst ek;subst eh
 exact⟨M.g,M.c0,M.c1,M.c2,M.c3,M.c4,M.c5,tab,fun e=>(kil e).1,fun e=>(kil e).2.1,fun e=>(kil e).2.2.1,fun e=>(kil e).2.2.2.1,fun e=>(kil e).2.2.2.2,fc,M.gp,fgl,fl0⟩
theorem GmH.mono {rs R R' g gp c0 c1 c2 c3 c4 c5} (M:GmH rs R g gp c0 c1 c2 c3 c4 c5) (s:Sub R R'):GmH rs R' g gp c0 c1 c2 c3 c4 c5:=⟨s _ _ M.g,s _ _ M.gp,s _ _ M.c0,s _ _ M.c1,s _ _ M.c2,s _ _ M.c3,s _ _ M.c4,s _ _ M.c5⟩
theorem ctx_leaf {rs:List Row} {ts:List Nat} {pl:Nat} {R:AHeap} (hp:R pl=some (.list (refs ts))) (hT:A2 (fun t (r:Row)=>R t=some (.tup r.tup)) ts rs) (tools:Nat) (calm most:Int) {n:Nat} {Q X:EQ}
  (h:∀ (A:Ad) H',SR A { cf tools calm with most:=most } (gmOf rs) 0 (sg0 (cf tools calm)) R H'→AdR A rs→Q (.ref A.c) H')
  {t s u rl:Nat} {R1 H1:AHeap} {v4:AV} (hI:IN (LawI (cellsOf rs)) R [rl,t,s,u] R1 H1) (ov:okv v4) (hv:∀ A:Ad,A.t=t→tabV A (cf tools calm)=v4)
  (hts:∀ cl w,tbl tools=some (cl,w)→R1 t=some (.obj 284 (ttFs cl w s))∧R1 s=some (.list (intsL (List.replicate (cl*w) 0)))) :
  vSs theTab (FW theTab (n+3)) (ftail ir_law_context 1) false [.ref pl,.int tools,.int calm,.int most,v4] H1 (retQ Q) (callX X):=by
 have s1:=hI.s
 have dv:∀ {P:AV→Prop},P v4→defd v4 P:=fun h=>defd_iff.2 ⟨fun z=>by rw [z] at ov;exact ov,h⟩
 refine bMod (by decide) ?_
 by_cases odd:tools%2=1
 ·have kh:(cf tools calm).kh=true:=decide_eq_true odd
  refine dT (show(tools:Int)%2=1 by lia) ?_
  refine x_game (n:=n+1) LawI.inv hI (s1 _ _ hp) (A2.mono (fun zz zz e=>s1 _ _ e) hT) fun R2 H2 g gp c0 c1 c2 c3 c4 c5 cl I2 s2 M=>?_
  refine dv ?_
  intro kl hkl
  refine x_kl_init (n:=n+2) LawI.inv I2 hkl fun R3 H3 k1 k2 I3 s3 a1 a2 a3=>?_
  intro hs hhs
  refine x_hs_init (n:=n+2) LawI.inv I3 hhs fun R4 H4 hd I4 s4 b1 b2=>?_
  intro c hc
  refine x_cx_init (n:=n+2) LawI.inv I4 hc ov (by trivial) (by trivial) fun R5 H5 gl l0 I5 s5 d1 d2 d3=>?_
  have s35:=s4.trans s5
  have s25:=s3.trans s35
  have s15:=s2.trans s25
  have a:AdR ⟨c,g,gp,gl,t,s,kl,k1,k2,hs,hd,c0,c1,c2,c3,c4,c5,rs.map Row.kl,rs.map Row.ml,rs.map Row.gl⟩ rs:=⟨rfl,rfl,rfl⟩
  exact h _ H5 (mkSR (is:=[2,8,0,19,6,5,3]) (js:=[9,16,15,14,13,12,11,18,7,4,1]) (n:=21) I5 rfl (by decide) (by decide) (by decide) rfl rfl a (ctx_fin (M.mono s25) (fun cl w e=>⟨s15 _ _ (hts cl w e).1,s15 _ _ (hts cl w e).2⟩) (fun zz=>⟨s35 _ _ a1,s35 _ _ a2,s35 _ _ a3,s5 _ _ b1,s5 _ _ b2⟩) (hv _ rfl) (kilV_t kh) (hisV_t kh) d1 d2 d3)) a
 ·have kh:¬ (cf tools calm).kh=true:=fun z=>odd (of_decide_eq_true z)
  refine dF (show ¬ (tools:Int)%2=1 by lia) ?_
  refine x_game (n:=n+1) LawI.inv hI (s1 _ _ hp) (A2.mono (fun zz zz e=>s1 _ _ e) hT) fun R2 H2 g gp c0 c1 c2 c3 c4 c5 cl I2 s2 M=>?_
  refine dv ?_
  intro c hc
  refine x_cx_init (n:=n+2) LawI.inv I2 hc ov (by trivial) (by trivial) fun R5 H5 gl l0 I5 s25 d1 d2 d3=>?_
  have s15:=s2.trans s25
  have a:AdR ⟨c,g,gp,gl,t,s,g,rl,cl,g,u,c0,c1,c2,c3,c4,c5,rs.map Row.kl,rs.map Row.ml,rs.map Row.gl⟩ rs:=⟨rfl,rfl,rfl⟩
  exact h _ H5 (mkSR (is:=[2,3,0,14,12,5,15]) (js:=[4,11,10,9,8,7,6,13,4,4,1]) (n:=16) I5 rfl (by decide) (by decide) (by decide) rfl rfl a (ctx_fin (M.mono s25) (fun cl w e=>⟨s15 _ _ (hts cl w e).1,s15 _ _ (hts cl w e).2⟩) (fun z=>absurd z kh) (hv _ rfl) (kilV_f kh) (hisV_f kh) d1 d2 d3)) a
theorem x_context {rs:List Row} {ts:List Nat} {pl:Nat} {R H:AHeap} (hI:LawI (cellsOf rs) R H) (hp:R pl=some (.list (refs ts))) (hT:A2 (fun t (r:Row)=>R t=some (.tup r.tup)) ts rs) (tools:Nat) (ht:tools < 6) (calm most:Int) {tz:Int} (etz:tz=tools) {n:Nat} {Q X:EQ}
  (h:∀ (A:Ad) H',SR A { cf tools calm with most:=most } (gmOf rs) 0 (sg0 (cf tools calm)) R H'→AdR A rs→Q (.ref A.c) H') :
  FW theTab (n+4) false 728 [.ref pl,.int tz,.int calm,.int most] H Q X:=by
 subst etz
 refine fw_in rfl rfl ?_
 intro t1 ht1
 refine x_tt_init (cl:=1) (w:=1) (n:=n+2) LawI.inv (IN.start hI) ht1 (by decide) (by decide) fun R1 H1 s1 I1 u1 f1 f2=>?_
 intro t2 ht2
 refine x_tt_init (cl:=2) (w:=2) (n:=n+2) LawI.inv I1 ht2 (by decide) (by decide) fun R2 H2 s2 I2 u2 g1 g2=>?_
 intro rl hrl
 have u3:=Sub.new (o:=AO.list [.none,.ref t1,.ref t2]) (I2.nr LawI.inv hrl)
 have I3:=I2.add LawI.inv (o:=.list [.none,.ref t1,.ref t2]) hrl
 refine bFdiv (by decide) (by decide) ?_
 have hcase:tools / 2=0∨tools / 2=1∨tools / 2=2:=by lia
 have hdiv:∀ {k:Nat},tools / 2=k→(tools:Int) / 2=(k:Int):=fun e=>by rw [← e];rfl
 rcases hcase with hz | hz | hz
 ·have htb:tbl tools=none:=by unfold tbl;rw [hz];rfl
  refine iL (j:=0) upd_eq (by rw [hdiv hz];rfl) rfl ?_
  exact ctx_leaf hp hT tools calm most h (t:=t1) (s:=s1) (u:=s2) (I3.pick (is:=[0,4,3,1]) (n:=5) (by decide) rfl (by decide)) (by trivial) (fun A zz=>tabV_none htb) (fun cl w e=>by rw [htb] at e;cases e)
 ·have htb:tbl tools=some (1,1):=by unfold tbl;rw [hz];rfl
  refine iL (j:=1) upd_eq (by rw [hdiv hz];rfl) rfl ?_
  exact ctx_leaf hp hT tools calm most h (t:=t1) (s:=s1) (u:=s2) (I3.pick (is:=[0,4,3,1]) (n:=5) (by decide) rfl (by decide)) (by trivial) (fun A e=>e ▸ tabV_some (x:=(1,1)) htb) (fun cl w e=>by rw [htb] at e;cases e;exact⟨u3 _ _ (u2 _ _ f1),u3 _ _ (u2 _ _ f2)⟩)
 ·have htb:tbl tools=some (2,2):=by unfold tbl;rw [hz];rfl
  refine iL (j:=2) upd_eq (by rw [hdiv hz];rfl) rfl ?_
  exact ctx_leaf hp hT tools calm most h (t:=t2) (s:=s2) (u:=s1) (I3.pick (is:=[0,2,1,3]) (n:=5) (by decide) rfl (by decide)) (by trivial) (fun A e=>e ▸ tabV_some (x:=(2,2)) htb) (fun cl w e=>by rw [htb] at e;cases e;exact⟨u3 _ _ g1,u3 _ _ g2⟩)
end Bn
namespace Bn
open Bm
theorem DK.sup {B R R':AHeap} {dk pa:Nat} {t:Int} (D:DK B R dk pa t) (s:Sub R R'):DK B R' dk pa t:=by
 obtain⟨⟨cs,tu,d1,d2,d3,d4⟩,b1,b2,sb⟩:=D
 exact⟨⟨cs,tu,s _ _ d1,s _ _ d2,d3,d4⟩,b1,b2,sb.trans s⟩
noncomputable def plus (B E:AHeap):AHeap:=fun a=>match B a with
 | some o=>some o
 | none=>E a
theorem plus_l {B E:AHeap}:Sub B (plus B E):=fun a o h=>by unfold plus;rw [h]
theorem plus_r {B R R':AHeap} (s:Sub B R):Sub (mns R' R) (plus B (mns R' R)):=fun a o h=>by
 unfold plus
 have:B a=none:=by
  cases e:B a with
  | none=>rfl
  | some q=>unfold mns at h;rw [s _ _ e] at h;cases h
 rw [this];exact h
theorem DK.plus {B R R':AHeap} {dk pa:Nat} {t:Int} (D:DK B R dk pa t) (s:Sub R R'):DK (Bn.plus B (mns R' R)) R' dk pa t:=by
 obtain⟨⟨cs,tu,d1,d2,d3,d4⟩,b1,b2,sb⟩:=D
 refine⟨⟨cs,tu,s _ _ d1,s _ _ d2,d3,d4⟩,?_,?_,fun a o h=>?_⟩
 ·unfold Bn.plus mns;rw [b1,d1]
 ·unfold Bn.plus mns;rw [b2,d2]
 ·unfold Bn.plus at h
  cases e:B a with
  | none=>rw [e] at h;exact mns_sub _ _ h
  | some q=>rw [e] at h;cases h;exact s _ _ (sb _ _ e)
theorem LawI.grow {C R H H'} (h:LawI C R H) (s:Sub H H'):LawI C R H':=⟨h.sub.trans s,fun p m=>⟨s _ _ (h.c p m).1,(h.c p m).2⟩⟩
theorem SR.lawI {A f rs age σ R H} (S:SR A f (gmOf rs) age σ R H) (a:AdR A rs):LawI (cellsOf rs) R H:=by
 have c:=S.st.chR;have n:=S.st.noR;have g:=S.st.gaR
 rw [a.ch] at c;rw [a.no] at n;rw [a.ga] at g
 refine⟨S.sub,fun p m=>?_⟩
 obtain⟨r,r1,r2⟩:=List.mem_flatMap.1 m
 rcases List.mem_cons.1 r2 with e | r2
 ·rw [e];have:=map_a2 g r r1;exact⟨this.1,this.2.2⟩
 rcases List.mem_cons.1 r2 with e | r2
 ·rw [e];have:=map_a2 n r r1;exact⟨this.1,this.2.2⟩
 ·rw [List.mem_singleton.1 r2];have:=map_a2 c r r1;exact⟨this.1,this.2.2⟩
theorem PV_of {rs:List Row} (O:RowsOk rs.length rs) {ts:List Nat} {pl:Nat} {R H:AHeap} (L:LawI (cellsOf rs) R H) (hp:R pl=some (.list (refs ts))) (hT:A2 (fun t (r:Row)=>R t=some (.tup r.tup)) ts rs):PV H pl (gmOf rs):=by
 have hl:(gmOf rs).kids.length=rs.length:=List.length_map ..
 refine⟨ts,L.sub _ _ hp,(A2.len hT).trans hl.symm,fun i hi=>?_⟩
 rw [hl] at hi
 obtain⟨r,hr⟩:=getSome hi
 have m:=List.mem_of_getElem? hr
 obtain⟨t,t1,t2⟩:=A2.at hT hr
 have g:∀ {α:Type} {f:Row→α} {d:α},((rs.map f)[i]?).getD d=f r:=fun {α f d}=>by rw [List.getElem?_map,hr];rfl
 have e1:(gmOf rs).kid i=r.ks:=g
 have e2:(gmOf rs).val i=r.v:=g
 have e3:(gmOf rs).ck i=r.c:=g
 have e4:(gmOf rs).dr i=r.d:=g
 have e5:∀ j,(gmOf rs).no i j=(r.ms[j - 1]?).getD false:=fun j=>by show((((rs.map Row.ms)[i]?).getD [])[j - 1]?).getD false=_;rw [g]
 refine⟨t,r.kl,r.ml,r.gl,r.ms,t1,⟨?_,?_,(L.c (r.ml,boolsL r.ms) (cells_mem m (List.mem_cons_of_mem _ (List.mem_cons_self ..)))).1,by rw [e1];exact(O i r hr).m,e5⟩⟩
 ·rw [e2,e3,e4];exact L.sub _ _ t2
 ·rw [e1];exact(L.c (r.kl,nats r.ks) (cells_mem m (List.mem_cons_of_mem _ (List.mem_cons_of_mem _ (List.mem_cons_self ..))))).1
theorem eqLc {f:AV→AV→Option Bool} {x y:AV} {xs ys:List AV} (h:f x y=some true) (k:eqL f xs ys=some true):eqL f (x::xs) (y::ys)=some true:=by unfold eqL;rw [h,k];rfl
theorem eqAi {n:Nat} {H:AHeap} {x:Int}:eqA (n+1) H (.int x) (.int x)=some true:=congrArg some (decide_eq_true rfl)
theorem eqAt {n:Nat} {H:AHeap} {a b:Nat} {xs ys:List AV} (ha:H a=some (.tup xs)) (hb:H b=some (.tup ys)) (e:eqL (eqA n H) xs ys=some true):eqA (n+1) H (.ref a) (.ref b)=some true:=by
 unfold eqA eqI;dsimp only;unfold eqC;rw [ha,hb];exact e
theorem eqAl {n:Nat} {H:AHeap} {a b:Nat} {xs ys:List AV} (ha:H a=some (.list xs)) (hb:H b=some (.list ys)) (e:eqL (eqA n H) xs ys=some true):eqA (n+1) H (.ref a) (.ref b)=some true:=by
 unfold eqA eqI;dsimp only;unfold eqC;rw [ha,hb];exact e
theorem eqR {α:Type} {P:Nat→α→Prop} {f:AV→AV→Option Bool} (e:∀ a b x,P a x→P b x→f (.ref a) (.ref b)=some true) (as:List Nat):∀ {bs:List Nat} {xs:List α},A2 P as xs→A2 P bs xs→eqL f (refs as) (refs bs)=some true:=by
 induction as with
 | nil=>intro bs xs h k;cases xs with
  | nil=>cases bs with
   | nil=>rfl
   | cons=>exact k.elim
  | cons=>exact h.elim
 | cons a as ih=>intro bs xs h k;cases xs with
  | nil=>exact h.elim
  | cons x xs=>cases bs with
   | nil=>exact k.elim
   | cons b bs=>exact eqLc (e a b x h.1 k.1) (ih h.2 k.2)
theorem eq_rep {H:AHeap} {as bs:List Nat} {xs:List Rp}:TRs H as xs→TRs H bs xs→eqL (eqA 3 H) (refs as) (refs bs)=some true :=
 eqR (fun a b x ⟨l,h1,h2⟩ ⟨k,g1,g2⟩=>eqAt h1 g1 (eqLc eqAi (eqLc eqAi (eqLc (eqAl h2 g2 eqL_ints) (eqLc eqAi rfl))))) as
noncomputable abbrev TPs (H:AHeap):List Nat→List (Int×Int)→Prop:=A2 fun t x=>H t=some (.tup [.int x.1,.int x.2])
theorem TPs.mono {H H':AHeap} (s:Sub H H') {ts xs} (h:TPs H ts xs):TPs H' ts xs:=A2.mono (fun zz zz e=>s _ _ e) h
theorem eq_tps {H:AHeap} {as bs:List Nat} {xs:List (Int×Int)}:TPs H as xs→TPs H bs xs→eqL (eqA 3 H) (refs as) (refs bs)=some true :=
 eqR (P:=fun t (x:Int×Int)=>H t=some (.tup [.int x.1,.int x.2])) (fun a b x h g=>eqAt h g (eqLc eqAi (eqLc eqAi rfl))) as
theorem neL {H:AHeap} {a b:Nat} {as bs:List AV} {Q:Bool→Prop} (ha:H a=some (.list as)) (hb:H b=some (.list bs)) (he:eqL (eqA 3 H) as bs=some true) (q:Q false):vCmp .ne (.ref a) (.ref b) H Q:=by
 unfold vCmp;dsimp only;rw [eqAl ha hb he];exact q
noncomputable def pairElt:IE:=.tup (.cons (.idx (.loc 0) (.c (.int 0))) (.cons (.idx (.loc 0) (.c (.int 1))) .nil))
theorem pair_comp1 {n w:Nat} {all ρ:List AV} {H0:AHeap} (hw:H0 w=some (.list all)) {K:List AV→AHeap→Prop} (as:List Nat):∀ (todo:List Rp) (H:AHeap) (ts:List Nat) (done:List (Int×Int)),Sub H0 H→TRs H0 as todo→TPs H ts done →
  (∀ H' ts',Sub H0 H'→TPs H' ts' (done++todo.map fun x=>((x.d:Int),x.v))→K (refs ts') H') →
  compL (.lst w all) (fun v H K=>vE theTab false (FW theTab n false) pairElt (v::ρ) H K (fun zz zz=>False)) (refs as) (refs ts) H K:=by
 induction as with
 | nil=>intro todo H ts done s ht hd h;cases todo with
  | nil=>rw [List.map_nil,List.append_nil] at h;exact h H ts s hd
  | cons=>exact ht.elim
 | cons a as ih=>intro todo H ts done s ht hd h;cases todo with
  | nil=>exact ht.elim
  | cons x todo =>
   obtain⟨⟨l,h1,h2⟩,h3⟩:=ht
   have h1':=s _ _ h1
   refine iT (j:=0) h1' rfl rfl ?_
   refine iT (j:=1) h1' rfl rfl ?_
   intro t ht0
   have sn:=Sub.new (o:=AO.tup [.int x.d,.int x.v]) ht0
   refine⟨(s.trans sn) _ _ hw,?_⟩
   have go:=ih todo _ (ts++[t]) (done++[((x.d:Int),x.v)]) (s.trans sn) h3 (A2.snoc (TPs.mono sn hd) upd_eq) (by rw [List.map_cons,List.append_cons] at h;exact h)
   rw [← refs_snoc] at go
   exact go
noncomputable def pairElt2:IE:=.tup (.cons (.bin .add (.loc 0) (.c (.int 1))) (.cons (.idx (.loc 8) (.loc 0)) .nil))
theorem pair_comp2 {n va:Nat} {l:List Int} {a1 a2 a3 a4 a5 a6 a7:AV} {ρ:List AV} {H0:AHeap} (hv:H0 va=some (.list (intsL l))) {K:List AV→AHeap→Prop} (w:Nat):∀ (s:Nat) (H:AHeap) (ts:List Nat) (done:List (Int×Int)),s+w≤l.length→Sub H0 H→TPs H ts done →
  (∀ H' ts',Sub H0 H'→TPs H' ts' (done++(List.range' s w).map fun(i:Nat)=>((i:Int)+1,(l[i]?).getD 0))→K (refs ts') H') →
  compL .rng (fun v H K=>vE theTab false (FW theTab n false) pairElt2 (v::a1::a2::a3::a4::a5::a6::a7::.ref va::ρ) H K (fun zz zz=>False)) (nats (List.range' s w)) (refs ts) H K:=by
 induction w with
 | zero =>
  intro s H ts done hl sb hd h
  exact h H ts sb (by rw [show(List.range' s 0).map (fun(i:Nat)=>((i:Int)+1,(l[i]?).getD 0))=[] from rfl,List.append_nil];exact hd)
 | succ w ih =>
  intro s H ts done hl sb hd h
  obtain⟨x,hx⟩:=getSome (l:=l) (k:=s) (by lia)
  refine compI (x:=.int s) (xs:=nats (List.range' (s+1) w)) ?_
  refine bAdd ?_
  refine inA (sb _ _ hv) hx ?_
  intro t ht0
  have sn:=Sub.new (o:=AO.tup [.int ((s:Int)+1),.int x]) ht0
  refine⟨trivial,?_⟩
  have go:=ih (s+1) _ (ts++[t]) (done++[((s:Int)+1,x)]) (by lia) (sb.trans sn) (A2.snoc (TPs.mono sn hd) upd_eq) (fun H' ts' q1 q3=>h H' ts' q1 (by
   rw [List.range'_succ,List.map_cons,hx,List.append_cons];exact q3))
  rw [← refs_snoc] at go
  exact go
theorem told_comp {n w:Nat} {all:List AV} {a1 a2 a3 a4 a5 a6 a7 a8 a9 a10 a11:AV} {ρ:List AV} {most:Int} {H:AHeap} (hw:H w=some (.list all)) {K:List AV→AHeap→Prop} (as:List Nat):∀ (todo:List Rp) (ts:List Nat) (done:List Rp),TRs H as todo→TRs H ts done →
  (∀ ts',TRs H ts' (done++todo.filter fun x=>decide (x.n≤most))→K (refs ts') H) →
  compIfL (.lst w all) (fun v H K=>vE theTab false (FW theTab n false) (.cmp .le (.idx (.loc 0) (.c (.int 3))) (.loc 12)) (v::a1::a2::a3::a4::a5::a6::a7::a8::a9::a10::a11::.int most::ρ) H (fun x H=>truthy x H fun b=>K b H) (fun zz zz=>False))
   (fun v H K=>vE theTab false (FW theTab n false) (.loc 0) (v::a1::a2::a3::a4::a5::a6::a7::a8::a9::a10::a11::.int most::ρ) H K (fun zz zz=>False)) (refs as) (refs ts) H K:=by
 induction as with
 | nil=>intro todo ts done ht hd h;cases todo with
  | nil=>rw [List.filter_nil,List.append_nil] at h;exact h ts hd
  | cons=>exact ht.elim
 | cons a as ih=>intro todo ts done ht hd h;cases todo with
  | nil=>exact ht.elim
  | cons x todo =>
   obtain⟨⟨l,h1,h2⟩,h3⟩:=ht
   refine iT (j:=3) h1 rfl rfl ?_
   by_cases c:x.n≤most
   ·refine dT c ⟨hw,?_⟩
    have go:=ih todo (ts++[a]) (done++[x]) h3 (A2.snoc hd ⟨l,h1,h2⟩) (by rw [List.filter_cons_of_pos (p:=fun x:Rp=>decide (x.n≤most)) (a:=x) (decide_eq_true c),List.append_cons] at h;exact h)
    rw [← refs_snoc] at go
    exact go
   ·refine dF c ⟨hw,?_⟩
    exact ih todo ts done h3 hd (by rw [List.filter_cons_of_neg (p:=fun x:Rp=>decide (x.n≤most)) (a:=x) (fun z=>c (of_decide_eq_true z))] at h;exact h)
noncomputable def fullElt:IE:=.call 709 (.cons (.loc 3) (.cons (.c (.int 0)) (.cons (.c (.int 0)) (.cons (.loc 0) (.cons (.loc 5) .nil)))))
theorem vals_comp (G:Gm) (O:GOk G) (c:Nat) (hc:c≤3) {N pl:Nat} (hN:10≤N) {a1 a2 a4:AV} {ρ:List AV} {H0:AHeap} (V:PV H0 pl G) {K:List AV→AHeap→Prop} (w:Nat):∀ (s:Nat) (H:AHeap) (acc:List Int),s+w≤4→Sub H0 H →
  (∀ H',Sub H0 H'→K (intsL (acc++(List.range' s w).map fun d=>G.F c d 0 0)) H') →
  compL .rng (fun v H K=>vE theTab false (FW theTab N false) fullElt (v::a1::a2::.ref pl::a4::.int c::ρ) H K (fun zz zz=>False)) (nats (List.range' s w)) (intsL acc) H K:=by
 induction w with
 | zero =>
  intro s H acc hl sb h
  have:=h H sb
  rw [show(List.range' s 0).map (fun d=>G.F c d 0 0)=[] from rfl,List.append_nil] at this
  exact this
 | succ w ih =>
  intro s H acc hl sb h
  refine compI (x:=.int s) (xs:=nats (List.range' (s+1) w)) ?_
  refine x_full G O (s+c) s c rfl (by lia) N (by lia) 0 0 H pl _ _ _ _ _ _ (by lia) O.n0 (V.mono sb) rfl rfl rfl rfl fun H' s'=>⟨trivial,?_⟩
  have go:=ih (s+1) H' (acc++[G.F c s 0 0]) (by lia) (sb.trans s') (fun H2 s2=>by
   have:=h H2 s2
   rw [List.range'_succ,List.map_cons,List.append_cons] at this
   exact this)
  rw [← ints_snoc] at go
  exact go
end Bn
namespace Bn
open Bm
theorem DP.mono {count rs ts pl B B'} (p:DP count rs ts pl B) (s:Sub B B'):DP count rs ts pl B':=⟨s _ _ p.pl,A2.mono (fun zz zz e=>s _ _ e) p.tups,p.ok⟩
structure W (rs:List Row) (ts:List Nat) (pl dk pa:Nat) (t:Int) (B R H:AHeap):Prop where
 law:LawI (cellsOf rs) R H
 dk:DK B R dk pa t
 p:DP rs.length rs ts pl B
 h0:0 < rs.length
 h6:rs.length≤6
section
variable {rs:List Row} {ts:List Nat} {pl dk pa:Nat} {t:Int} {B R H:AHeap}
theorem W.ok (w:W rs ts pl dk pa t B R H):GOk (gmOf rs):=w.p.ok.ok w.h0 w.h6
theorem W.pvS (w:W rs ts pl dk pa t B R H) {R' H':AHeap} (L:LawI (cellsOf rs) R' H') (s:Sub B R'):PV H' pl (gmOf rs):=PV_of w.p.ok L (s _ _ w.p.pl) (w.p.mono s).tups
theorem W.sr (w:W rs ts pl dk pa t B R H) {A f age σ R' H' t'} {B'} (S:SR A f (gmOf rs) age σ R' H') (a:AdR A rs) (D:DK B' R' dk pa t') (s:Sub B B'):W rs ts pl dk pa t' B' R' H' :=
 ⟨S.lawI a,D,w.p.mono s,w.h0,w.h6⟩
theorem W.next (w:W rs ts pl dk pa t B R H) {t' R' H'} (L:LawI (cellsOf rs) R' H') (D:DK B R' dk pa t'):W rs ts pl dk pa t' B R' H':=⟨L,D,w.p,w.h0,w.h6⟩
theorem W.ctx (w:W rs ts pl dk pa t B R H) (tools:Nat) (ht:tools < 6) (calm most:Int) {n:Nat} {Q X:EQ}
  (h:∀ (A:Ad) H',SR A { cf tools calm with most:=most } (gmOf rs) 0 (sg0 (cf tools calm)) R H'→AdR A rs→Q (.ref A.c) H') :
  FW theTab (n+4) false 728 [.ref pl,.int tools,.int calm,.int most] H Q X :=
 have p:=w.p.mono w.dk.sub
 x_context w.law p.pl p.tups tools ht calm most rfl h
end
noncomputable def valsL (G:Gm) (c D:Nat):List Int:=(List.range' 1 D).map fun d=>G.F c d 0 0
theorem vals_at {G:Gm} {c D k:Nat} (h:k < D):(valsL G c D)[k]? = some (G.F c (k+1) 0 0):=by
 unfold valsL
 rw [List.getElem?_map,List.getElem?_range' h,Nat.one_mul,Nat.add_comm];rfl
theorem vals_len {G:Gm} {c D:Nat}:(valsL G c D).length=D:=by unfold valsL;rw [List.length_map,List.length_range']
theorem va_last {G:Gm} {c D va:Nat} {H:AHeap} (hD:1≤D) (h:H va=some (.list (intsL (valsL G c D)))) {K:AV→Prop} (q:K (.int (G.F c D 0 0))):vIdx (.ref va) (.int (-1)) H K :=
 iL (j:=D - 1) h (by rw [ints_len,vals_len];exact place_last hD) (ints_get (by have:=vals_at (G:=G) (c:=c) (Nat.sub_lt hD Nat.one_pos);rw [Nat.sub_add_cancel hD] at this;exact this)) q
theorem aE {T:Tab} {a:Nat} {v:AV} {H:AHeap} {Q:AV→Prop} (h:H a=some (.exc v)) (q:Q v):vAttr T (.ref a) "nodes" H Q:=by
 exact .exc h q
noncomputable def lenv2 (w0:AV) (dk pl D c tools:Nat) (w6:AV) (va:Nat) (w8 w9 w10 w11 w12 w13 w14 w15 w16:AV):List AV:=[w0,.ref dk,.ref pl,.int D,.int c,.int tools,w6,.ref va,w8,w9,w10,w11,w12,w13,w14,w15,w16]
section
variable {G:Gm} {pl dk pa va:Nat} {D c tools:Nat}
theorem law_try (O:GOk G) (hD1:1≤D) (hDc:D+c≤3) {A:Ad} {B R H:AHeap} {t most:Int} (hm:0 < most) (S:SR A { cf tools c with most:=most } G 0 (sg0 (cf tools c)) R H) (K:DK B R dk pa t) (ht:t≤900000) (hva:B va=some (.list (intsL (valsL G c D))))
  {m:Nat} {w0 w6 w9 w10 w12 w13 w14 w15 w16:AV} {Q:SQ} {X:SX}
  (hn:∀ R' H' σ' v10 v14,SR A { cf tools c with most:=most } G 0 σ' R' H'→σ'.path=[0]→σ'.made=0→Sub B R'→Q .next (lenv2 w0 dk pl D c tools w6 va (.ref A.c) w9 v10 (.int most) w12 w13 v14 w15 w16) H')
  (hx:∀ R' H' σ' v14,SR A { cf tools c with most:=most } G 0 σ' R' H'→Unw σ'→Sub B R'→X (.int most) (lenv2 w0 dk pl D c tools w6 va (.ref A.c) w9 w10 (.int most) w12 w13 v14 w15 w16) H') :
  vSs theTab (FW theTab (m+39)) ir_law_try0 false (lenv2 w0 dk pl D c tools w6 va (.ref A.c) w9 w10 (.int most) w12 w13 w14 w15 w16) H Q X:=by
 have hS:=x_search G O c (cf tools c) rfl 0 ⟨by decide,by decide⟩ D
 refine va_last hD1 (S.sub _ _ (K.sub _ _ hva)) ?_
 refine x_guess (n:=m+37) SR.inv S K (by lia) fun R1 H1 g S1 K1=>?_
 have s1:=K1.sub
 have hmo:most≤0∨(sg0 (cf tools c)).nodes≤most:=.inr (Int.le_of_lt hm)
 have fin:∀ (σ':Sg) (H':AHeap),SR A { cf tools c with most:=most } G 0 σ' R1 H'→At σ' 0 0→(most≤0∨σ'.nodes≤most) →
   vSs theTab (FW theTab (m+39)) (ftail ir_law_try0 2) false (lenv2 w0 dk pl D c tools w6 va (.ref A.c) w9 (.int (G.F c D 0 0)) (.int most) w12 w13 (.int g) w15 w16) H' Q X:=by
  intro σ' H' S' T' hle
  refine va_last hD1 (S'.sub _ _ (s1 _ _ hva)) ?_
  refine nF rfl ?_
  refine cnodes S' ?_
  refine dF (Int.not_lt.2 (hle.resolve_left (Int.not_le.2 hm))) ?_
  obtain⟨p1,p2⟩:=T'.root
  exact hn R1 H' σ' _ _ S' p1 p2 s1
 refine bMod (by decide) ?_
 by_cases ev:(tools:Int)%2=0
 ·obtain⟨σ',J1,J2,J3,J4,run⟩:=x_aspirate G O c (cf tools c) 0 D hS (by lia) (by lia) (sg0 (cf tools c)) g 1 sg0_ok sg0_at
  refine dT ev ?_
  exact run D rfl (m+39) (by lia) A most R1 H1 _ _ hmo S1 (fun hm1 H2 S2=>fin σ' H2 S2 (sg0_at.fr J2) hm1) (fun q1 q2 σ'' H'' u1 u2 u3=>hx R1 H'' σ'' _ u3 u1 s1)
 ·obtain⟨σ',J1,J2,run⟩:=x_mtdf G O c (cf tools c) 0 D hS (by lia) (by lia) (sg0 (cf tools c)) g sg0_ok sg0_at
  refine dF ev ?_
  exact run D rfl (m+39) (by lia) A most R1 H1 _ _ hmo S1 (fun hm1 H2 S2=>fin σ' H2 S2 (sg0_at.fr J2) hm1) (fun q1 q2 σ'' H'' u1 u2 u3=>hx R1 H'' σ'' _ u3 u1 s1)
theorem law_turn (O:GOk G) (hD1:1≤D) (hDc:D+c≤3) {A:Ad} {σ:Sg} {B R H:AHeap} {t:Int} (S:SR A { cf tools c with most:=0 } G 0 σ R H) (I:SOk G c (cf tools c) σ) (T:At σ 0 0) (K:DK B R dk pa t) (ht:t≤900000) (hva:B va=some (.list (intsL (valsL G c D))))
  (pv:∀ {R' H' σ'},SR A { cf tools c with most:=0 } G 0 σ' R' H'→Sub B R'→PV H' pl G) {m:Nat} {w0 w6 w9 w10 w11 w12 w13 w14 w15 w16:AV} {Q:SQ} {X:SX}
  (hn:∀ R' H' σ' v13 v14 v15,SR A { cf tools c with most:=0 } G 0 σ' R' H'→SOk G c (cf tools c) σ'→At σ' 0 0→DK B R' dk pa (t+5)→Q .next (lenv2 w0 dk pl D c tools w6 va (.ref A.c) w9 w10 w11 w12 v13 v14 v15 w16) H') :
  vSs theTab (FW theTab (m+39)) ir_law_loop0 false (lenv2 w0 dk pl D c tools w6 va (.ref A.c) w9 w10 w11 w12 w13 w14 w15 w16) H Q X:=by
 refine x_card (n:=m+38) SR.inv S K (by lia) (by lia) fun R1 H1 c1 S1 K1 g1 g2=>?_
 obtain⟨k,rfl⟩:=Int.eq_ofNat_of_zero_le g1
 have hkD:k < D:=Int.ofNat_lt.1 g2
 have vat:∀ {H:AHeap} {K:AV→Prop},H va=some (.list (intsL (valsL G c D)))→K (.int (G.F c (k+1) 0 0))→vIdx (.ref va) (.int (1+(k:Int) - 1)) H K:=fun {H K} h q =>
  iL h (place_nat (k:=k) (by rw [ints_len,vals_len];exact hkD) (by lia)) (ints_get (vals_at hkD)) q
 refine bAdd ?_
 refine bSub ?_
 refine vat (S1.sub _ _ (K1.sub _ _ hva)) ?_
 refine x_guess (n:=m+37) SR.inv S1 K1 (by lia) fun R2 H2 g S2 K2=>?_
 intro a ha
 have ra:=S2.none_R ha
 have S3:=S2.put (o:=.list (intsL [1,40,-3,999,1001,10 ^ 80])) (.inr ha)
 have K3:=K2.grow (o:=.list (intsL [1,40,-3,999,1001,10 ^ 80])) ra
 refine x_card (n:=m+38) SR.inv S3 K3 (by lia) (by decide) fun R4 H4 c4 S4 K4 g3 g4=>?_
 have K4':=K4.down (Sub.new (sub_none K2.sub ra))
 refine pick_int (S4.sub _ _ (K4.sub _ _ upd_eq)) g3 g4 fun wd zz=>?_
 have hS:=x_search G O c (cf tools c) rfl 0 ⟨by decide,by decide⟩ (k+1)
 obtain⟨σ1,J1,J2,J3,J4,run1⟩:=x_aspirate G O c (cf tools c) 0 (k+1) hS (by lia) (by lia) σ g wd I T
 obtain⟨σ2,M1,M2,run2⟩:=x_mtdf G O c (cf tools c) 0 (k+1) hS (by lia) (by lia) σ1 g J1 (T.fr J2)
 have ek:(1+(k:Int))=((k+1:Nat):Int):=Int.add_comm ..
 refine run1 (1+(k:Int)) ek (m+39) (by lia) A 0 R4 H4 _ _ (.inl (Int.le_refl _)) S4 (fun zz H5 S5=>?_) (fun q1=>absurd q1 (Int.lt_irrefl 0))
 refine bSub ?_
 refine vat (S5.sub _ _ (K4'.sub _ _ hva)) ?_
 refine nF rfl ?_
 refine run2 (1+(k:Int)) ek (m+39) (by lia) A 0 R4 H5 _ _ (.inl (Int.le_refl _)) S5 (fun zz H6 S6=>?_) (fun q1=>absurd q1 (Int.lt_irrefl 0))
 refine bSub ?_
 refine vat (S6.sub _ _ (K4'.sub _ _ hva)) ?_
 refine nF rfl ?_
 have T2:=(T.fr J2).fr M2
 obtain⟨p1,p2⟩:=T2.root
 refine x_at_root (n:=m+37) S6 O p1 p2 (pv S6 K4'.sub) fun H7 s7=>?_
 refine bT rfl ?_
 refine bF rfl ?_
 exact hn R4 H7 σ2 _ _ _ (S6.grow s7) M1 T2 (K4'.up (by lia))
end
section
variable {rs:List Row} {ts:List Nat} {pl dk pa va:Nat} {D c tools:Nat}
theorem run_e (hD1:1≤D) (hDc:D+c≤3) (ht6:tools < 6) {B R H:AHeap} {t:Int} (w:W rs ts pl dk pa t B R H) (ht:t≤850000) (hva:B va=some (.list (intsL (valsL (gmOf rs) c D))))
  {m:Nat} {w0 w6 w8 w9 w10 w11 w12 w13 w14 w15 w16:AV} {Q X:EQ} (h:∀ H',Q (.bool true) H') :
  vSs theTab (FW theTab (m+39)) (ftail ir_law 16) false (lenv2 w0 dk pl D c tools w6 va w8 w9 w10 w11 w12 w13 w14 w15 w16) H (retQ Q) (callX X):=by
 refine x_card (n:=m+38) LawI.inv w.law w.dk (by lia) (by decide) fun R1 H1 c1 L1 D1 g1 g2=>?_
 refine bAdd ?_
 refine(w.next L1 D1).ctx (n:=m+35) tools ht6 c (1+c1) fun A H2 S2 a=>?_
 refine⟨rfl,law_try (most:=1+c1) w.ok hD1 hDc (by lia) S2 D1 (by lia) hva (fun R3 H3 σ' v10 v14 S3 p1 p2 s=>?_) (fun R3 H3 σ' v14 S3 u s b hb=>?_)⟩
 ·exact x_at_root (n:=m+37) S3 w.ok p1 p2 (w.pvS (S3.lawI a) s) fun H' zz=>h H'
 ·have S4:=S3.new (o:=.exc (.int (1+c1))) hb
  refine aE upd_eq ?_
  refine nF rfl ?_
  refine x_unwind (n:=m+36) S4 u fun H5 S5=>?_
  exact x_at_root (n:=m+37) S5 w.ok rfl rfl (w.pvS (S5.lawI a) s) fun H' zz=>h H'
theorem run_d (hD1:1≤D) (hDc:D+c≤3) (ht6:tools < 6) {B R H:AHeap} {t:Int} (w:W rs ts pl dk pa t B R H) (ht:t≤800000) (hva:B va=some (.list (intsL (valsL (gmOf rs) c D))))
  {m:Nat} {w0 w6 w8 w9 w10 w11 w12 w13 w14 w15 w16:AV} {Q X:EQ} (h:∀ H',Q (.bool true) H') :
  vSs theTab (FW theTab (m+39)) (ftail ir_law 14) false (lenv2 w0 dk pl D c tools w6 va w8 w9 w10 w11 w12 w13 w14 w15 w16) H (retQ Q) (callX X):=by
 refine w.ctx (n:=m+35) tools ht6 c 0 fun A H2 S2 a=>?_
 refine rN (s:=0) (w:=2) rfl rfl (by decide) (by decide) ?_
 refine⟨rfl,?_⟩
 refine foI (x:=.int (0:Nat)) (xs:=nats (List.range' 1 1)) ?_
 refine law_turn w.ok hD1 hDc S2 sg0_ok sg0_at w.dk (by lia) hva (fun S s=>w.pvS (S.lawI a) s) fun R3 H3 σ3 v13 v14 v15 S3 I3 T3 K3=>?_
 refine fN trivial ?_
 refine foI (x:=.int (1:Nat)) (xs:=[]) ?_
 refine law_turn w.ok hD1 hDc S3 I3 T3 K3 (by lia) hva (fun S s=>w.pvS (S.lawI a) s) fun R4 H4 σ4 u13 u14 u15 S4 I4 T4 K4=>?_
 refine fN trivial ?_
 exact run_e hD1 hDc ht6 (w.sr S4 a K4 Sub.refl) (by lia) hva h
end
end Bn
namespace Bn
open Bm
section
variable {rs:List Row} {ts:List Nat} {pl dk pa va:Nat} {D c tools:Nat}
noncomputable abbrev GoOn (G:Gm) (c tools D:Nat) (delta:Int) (reps:List Rp):Prop:=RepsR (cf tools c) G (3*D+2*c+14) delta D reps (sg0 (cf tools c))
theorem run_c (hD1:1≤D) (hDc:D+c≤3) (ht6:tools < 6) {delta:Int} {reps:List Rp} (hl:reps.length=D) (hg:GdR (gmOf rs) c 0 0 reps) (go:GoOn (gmOf rs) c tools D delta reps) {B R H:AHeap} {t:Int} (w:W rs ts pl dk pa t B R H) (ht:t≤700000) (hva:B va=some (.list (intsL (valsL (gmOf rs) c D)))) {wa:Nat} (hw:TupR B wa reps)
  {m:Nat} {w0 w8 w10 w11 w12 w13 w14 w15 w16:AV} {Q X:EQ} (h:∀ H',Q (.bool true) H') :
  vSs theTab (FW theTab (m+39)) (ftail ir_law 11) false (lenv2 w0 dk pl D c tools (.int delta) va w8 (.ref wa) w10 w11 w12 w13 w14 w15 w16) H (retQ Q) (callX X):=by
 obtain⟨as,a1,a2⟩:=hw
 have hlen:=A2.len a2
 obtain⟨x,hx⟩:=getSome (l:=reps) (k:=as.length - 1) (by lia)
 obtain⟨ta,ta1,l,ta2,ta3⟩:=A2.at a2 hx
 obtain⟨_,_,_,hpos⟩:=hg _ _ hx
 have BH:Sub B H:=w.dk.sub.trans w.law.sub
 refine iL (j:=as.length - 1) (v:=.ref ta) (BH _ _ a1) (by rw [refs_len];exact place_last (by lia)) (refs_get ta1) ?_
 refine iT (j:=3) (BH _ _ ta2) rfl rfl ?_
 refine bAdd ?_
 refine x_card (n:=m+38) LawI.inv w.law w.dk (by lia) (by lia) fun R1 H1 c1 L1 D1 g1 g2=>?_
 refine bAdd ?_
 refine(w.next L1 D1).ctx (n:=m+35) tools ht6 c (1+c1) fun A H2 S2 a=>?_
 refine go (m+34) (by lia) A (1+c1) R1 H2 _ _ _ rfl (.inr (show(0:Int)≤1+c1 by lia)) S2 fun H3 R3 w2 σf S3 p1 p2 s3 T3=>?_
 obtain⟨as2,q1,q2⟩:=T3
 have sB:=D1.sub.trans s3
 have B3:Sub B H3:=sB.trans S3.sub
 have M3:Sub (mns R3 R1) H3:=fun a o e=>S3.sub _ _ (mns_sub _ _ e)
 refine vO (B3 _ _ a1) ⟨rfl,told_comp (B3 _ _ a1) as reps [] [] (TRs.mono B3 a2) trivial fun ts' T4 b hb=>?_⟩
 have sn:=Sub.new (o:=AO.list (refs ts')) hb
 have S4:=S3.grow sn
 have he:toldOf (1+c1) reps=reps.filter fun x=>decide (x.n≤1+c1):=if_neg (by lia)
 rw [he] at q2
 refine neL (sn _ _ (M3 _ _ q1)) upd_eq (eq_rep (TRs.mono (M3.trans sn) q2) (TRs.mono sn T4)) ?_
 refine bF rfl ?_
 refine x_at_root (n:=m+37) S4 w.ok p1 p2 (w.pvS (S4.lawI a) sB) fun H5 s5=>?_
 refine bT rfl ?_
 refine bF rfl ?_
 exact run_d hD1 hDc ht6 (w.sr (S4.grow s5) a (D1.sup s3) Sub.refl) (by lia) hva h
theorem leads_all {G:Gm} (hDc:D+c≤3) (O:GOk G) {A:Ad} {σ:Sg} {R:AHeap} {f:Cf} {H0:AHeap} (S0:SR A f G 1 σ R H0) (p1:σ.path=[0]) (p2:σ.made=0) (V0:PV H0 pl G) {wa:Nat} {all:List AV} (hw:H0 wa=some (.list all)) {m:Nat} {w0 w6 w9 w11 w12 w13 w14 w15 w16:AV} {X:SX} (as:List Nat) :
  ∀ (todo:List Rp) (H:AHeap) (w10:AV) (Q:SQ),Sub H0 H→TRs H0 as todo→(∀ x∈todo,x.d≤D∧Lead G c x.d 0 0 x.row x.v) →
   (∀ H' v10,Sub H0 H'→Q .next (lenv2 w0 dk pl D c tools w6 va (.ref A.c) w9 v10 w11 w12 w13 w14 w15 w16) H') →
   forL (.lst wa all) 10 (fun ρ H K=>vSs theTab (FW theTab (m+39)) ir_law_loop1 false ρ H K X) (refs as) (lenv2 w0 dk pl D c tools w6 va (.ref A.c) w9 w10 w11 w12 w13 w14 w15 w16) H Q:=by
 induction as with
 | nil=>intro todo H w10 Q s ht hL h;cases todo with
  | nil=>exact h H w10 s
  | cons=>exact ht.elim
 | cons a as ih=>intro todo H w10 Q s ht hL h;cases todo with
  | nil=>exact ht.elim
  | cons x todo =>
   obtain⟨⟨l,h1,h2⟩,h3⟩:=ht
   obtain⟨hd,ld⟩:=hL x (List.mem_cons_self ..)
   have h1':=s _ _ h1
   refine foI (x:=.ref a) (xs:=refs as) ?_
   refine iT (j:=2) h1' rfl rfl ?_
   refine iT (j:=0) h1' rfl rfl ?_
   refine iT (j:=1) h1' rfl rfl ?_
   refine x_leads G O c x.d pl l (by lia) (by lia) x.row x.v ld (V0.mono s) (s _ _ h2) (n:=m+38) (by lia) rfl rfl fun H1 s1=>?_
   have s01:=s.trans s1
   refine bT rfl ?_
   refine bF rfl ?_
   refine x_at_root (n:=m+37) (S0.grow s01) O p1 p2 (V0.mono s01) fun H2 s2=>?_
   have s02:=s01.trans s2
   refine bT rfl ?_
   refine bF rfl ?_
   refine fN (s02 _ _ hw) ?_
   exact ih todo H2 _ Q s02 h3 (fun y hy=>hL y (List.mem_cons_of_mem _ hy)) h
theorem run_b (hD1:1≤D) (hDc:D+c≤3) (ht6:tools < 6) {delta:Int} {reps:List Rp} (hl:reps.length=D) (hg:GdR (gmOf rs) c 0 0 reps) (go:GoOn (gmOf rs) c tools D delta reps) {A:Ad} {σ:Sg} {f:Cf} {B0 R0 H0 B R H:AHeap} {t t0:Int} (w:W rs ts pl dk pa t0 B0 R0 H0) (sB:Sub B0 B) (S:SR A f (gmOf rs) 1 σ R H) (a:AdR A rs) (p1:σ.path=[0]) (p2:σ.made=0) (K:DK B R dk pa t) (ht:t≤700000) (hva:B va=some (.list (intsL (valsL (gmOf rs) c D)))) {wa:Nat} (hw:TupR B wa reps)
  {m:Nat} {w0 w10 w11 w12 w13 w14 w15 w16:AV} {Q X:EQ} (h:∀ H',Q (.bool true) H') :
  vSs theTab (FW theTab (m+39)) (ftail ir_law 9) false (lenv2 w0 dk pl D c tools (.int delta) va (.ref A.c) (.ref wa) w10 w11 w12 w13 w14 w15 w16) H (retQ Q) (callX X):=by
 obtain⟨as,a1,a2⟩:=hw
 have BH:Sub B H:=K.sub.trans S.sub
 have waH:=BH _ _ a1
 have w1:=w.sr S a K sB
 refine vO waH ⟨rfl,pair_comp1 waH as reps H [] [] Sub.refl (TRs.mono BH a2) trivial fun H1 ts1 s1 T1 b1 hb1=>?_⟩
 have sa:=Sub.new (o:=AO.list (refs ts1)) hb1
 refine rN (s:=0) (w:=D) rfl (Int.zero_add _).symm (by decide) (by lia) ?_
 refine⟨rfl,pair_comp2 ((s1.trans sa) _ _ (BH _ _ hva)) D 0 _ [] [] (by rw [vals_len];lia) Sub.refl trivial fun H2 ts2 s2 T2 b2 hb2=>?_⟩
 have sb:=Sub.new (o:=AO.list (refs ts2)) hb2
 have hlist:(reps.map fun x=>((x.d:Int),x.v))=(List.range' 0 D).map fun(i:Nat)=>((i:Int)+1,((valsL (gmOf rs) c D)[i]?).getD 0):=by
  refine List.ext_getElem? fun k=>?_
  rw [List.getElem?_map,List.getElem?_map]
  by_cases hk:k < D
  ·obtain⟨x,hx⟩:=getSome (l:=reps) (k:=k) (hl ▸ hk)
   obtain⟨e1,e2,_,_⟩:=hg k x hx
   rw [Nat.zero_add] at e1 e2
   rw [hx,List.getElem?_range' hk,Nat.one_mul,Nat.zero_add]
   show some ((x.d:Int),x.v)=some ((k:Int)+1,((valsL (gmOf rs) c D)[k]?).getD 0)
   rw [vals_at hk,e1,e2];rfl
  ·rw [List.getElem?_eq_none (by rw [hl];exact Nat.not_lt.1 hk),List.getElem?_eq_none (by rw [List.length_range'];exact Nat.not_lt.1 hk)];rfl
 rw [List.nil_append] at T1 T2
 rw [hlist] at T1
 have st:=s2.trans sb
 refine neL (st _ _ upd_eq) upd_eq (eq_tps (TPs.mono (sa.trans st) T1) (TPs.mono sb T2)) ?_
 refine bF rfl ?_
 have sall:Sub H (upd H2 b2 (.list (refs ts2))):=(s1.trans sa).trans st
 have S3:=S.grow sall
 refine vO (sall _ _ waH) ⟨rfl,leads_all (D:=D) hDc w.ok S3 p1 p2 (w1.pvS (S3.lawI a) K.sub) (sall _ _ waH) as reps _ _ _ Sub.refl (TRs.mono (BH.trans sall) a2) (fun x hx=>?_) fun H4 v10 s4=>?_⟩
 ·obtain⟨k,hk⟩:=List.getElem?_of_mem hx
  obtain⟨e1,e2,e3,_⟩:=hg k x hk
  have:=len_of hk
  rw [← e1] at e3
  exact⟨by lia,e3⟩
 ·exact run_c hD1 hDc ht6 hl hg go (w.sr (S3.grow s4) a K sB) ht hva ⟨as,a1,a2⟩ h
theorem run_a (hD1:1≤D) (hDc:D+c≤3) (ht6:tools < 6) {delta:Int} {B R H:AHeap} {t:Int} (w:W rs ts pl dk pa t B R H) (ht:t≤600000)
  {m:Nat} {w0 w7 w8 w9 w10 w11 w12 w13 w14 w15 w16:AV} {Q X:EQ} (h:∀ H',Q (.bool true) H') :
  vSs theTab (FW theTab (m+39)) (ftail ir_law 6) false [w0,.ref dk,.ref pl,.int D,.int c,.int tools,.int delta,w7,w8,w9,w10,w11,w12,w13,w14,w15,w16] H (retQ Q) (callX X):=by
 obtain⟨reps,hl,hg,go⟩:=x_reports (gmOf rs) w.ok c (cf tools c) rfl delta D (by lia) (by lia) (sg0 (cf tools c)) sg0_ok sg0_at
 refine bAdd ?_
 refine rN (s:=1) (w:=D) rfl (Int.add_comm ..) (by decide) (by lia) ?_
 refine⟨rfl,vals_comp (gmOf rs) w.ok c (by lia) (N:=m+39) (by lia) (w.pvS w.law w.dk.sub) D 1 H [] (by lia) Sub.refl fun H1 s1 va hva=>?_⟩
 have L1:=w.law.grow s1
 have rv:=LawI.inv.none L1 hva
 have sv:Sub B (upd B va (.list (intsL (valsL (gmOf rs) c D)))):=Sub.new (sub_none w.dk.sub rv)
 have D2:=w.dk.grow (o:=.list (intsL (valsL (gmOf rs) c D))) rv
 have w2:W rs ts pl dk pa t (upd B va (.list (intsL (valsL (gmOf rs) c D)))) (upd R va (.list (intsL (valsL (gmOf rs) c D)))) (upd H1 va (.list (intsL (valsL (gmOf rs) c D)))):=⟨LawI.inv.put _ _ _ _ L1 (.inr hva),D2,w.p.mono sv,w.h0,w.h6⟩
 refine w2.ctx (n:=m+35) tools ht6 c 0 fun A H3 S3 a=>?_
 refine go (m+34) (by lia) A 0 _ H3 _ _ _ rfl (.inl (Int.le_refl _)) S3 fun H4 R4 wa σf S4 p1 p2 s4 T4=>?_
 exact run_b hD1 hDc ht6 hl hg go w2 plus_l S4 a p1 p2 (D2.plus s4) (by lia) (plus_l _ _ upd_eq) (TupR.mono (by rw [show toldOf 0 reps=reps from if_pos (Int.le_refl _)] at T4;exact T4) (plus_r D2.sub)) h
end
theorem x_law (m:Nat) (H:AHeap) (sa:Nat) (script:List Int) (hs:H sa=some (.ro (intsL script))) (Q X:EQ) (h:∀ H',Q (.bool true) H'):FW theTab (m+40) false 752 [.ref sa] H Q X:=by
 have ep:((intsL script).take 60).reverse=intsL ((script.take 60).reverse):=by unfold intsL;rw [← List.map_take,← List.map_reverse]
 refine fw_in rfl rfl ?_
 refine oR hs ?_
 intro a0 h0
 refine oL upd_eq ?_
 rw [ep]
 intro pa hpa
 refine⟨by decide,?_⟩
 intro dk hdk
 have npd:pa≠dk:=fun z=>by rw [← z,upd_eq] at hdk;cases hdk
 obtain⟨R,hR⟩:∃ R:AHeap,R=upd (upd (fun zz=>none) pa (.list (intsL ((script.take 60).reverse)))) dk (.deck (dkFs pa 0)):=⟨_,rfl⟩
 have sR:Sub R (upd (upd (upd H a0 (.list ((intsL script).take 60))) pa (.list (intsL ((script.take 60).reverse)))) dk (.deck (dkFs pa 0))):=fun b o e=>by
  rw [hR] at e
  by_cases n1:b=dk
  ·subst n1;rw [upd_eq] at e ⊢;exact e
  ·rw [upd_ne n1] at e ⊢
   by_cases n2:b=pa
   ·subst n2;rw [upd_eq] at e ⊢;exact e
   ·rw [upd_ne n2] at e;cases e
 have D0:DK (fun zz=>none) R dk pa 0:=⟨⟨(script.take 60).reverse,0,by rw [hR];exact upd_eq,by rw [hR];exact upd_some upd_eq npd,by decide,by decide⟩,rfl,rfl,fun b o e=>nomatch e⟩
 refine x_deal (n:=m+37) dk pa _ R _ 0 (by decide) sR D0 fun rs ts pl B' R' H' q1 q2 S=>?_
 have w:W rs ts pl dk pa 200 B' R' H':=⟨S.law,S.dk,S.p,by lia,q2⟩
 refine x_card (n:=m+38) LawI.inv w.law w.dk (by decide) (by decide) fun R1 H1 c1 L1 D1 g1 g2=>?_
 obtain⟨D,hD⟩:=Int.eq_ofNat_of_zero_le (show 0≤1+c1 by lia)
 refine bAdd (hD ▸ ?_)
 refine bSub ?_
 refine x_card (n:=m+38) LawI.inv L1 D1 (by decide) (by lia) fun R2 H2 c2 L2 D2 g3 g4=>?_
 obtain⟨c,rfl⟩:=Int.eq_ofNat_of_zero_le g3
 refine x_card (n:=m+38) LawI.inv L2 D2 (by decide) (by decide) fun R3 H3 c3 L3 D3 g5 g6=>?_
 obtain⟨tools,rfl⟩:=Int.eq_ofNat_of_zero_le g5
 intro a ha
 have ra:=LawI.inv.none L3 ha
 have L4:=LawI.inv.put _ _ a (.list (intsL [1,16,-5,300,5000,10 ^ 60])) L3 (.inr ha)
 have D4:=D3.grow (o:=.list (intsL [1,16,-5,300,5000,10 ^ 60])) ra
 refine x_card (n:=m+38) LawI.inv L4 D4 (by decide) (by decide) fun R5 H5 c5 L5 D5 g7 g8=>?_
 have D5':=D5.down (Sub.new (sub_none D3.sub ra))
 refine pick_int (L5.sub _ _ (D5.sub _ _ upd_eq)) g7 g8 fun delta zz=>?_
 exact run_a (by lia) (by lia) (by lia) (w.next L5 D5') (by decide) h
end Bn
namespace Bm
open PySem PySem.W PyProof.Rows
noncomputable def frag (h:Nat→Option Obj) (as:List Nat):Frag:=as.filterMap fun a=>(h a).map (a,·)
theorem frag_at {h:Nat→Option Obj} {a:Nat} {o:Obj} {as:List Nat} (e:(frag h as).lookup a=some o):h a=some o:=by
 unfold frag at e
 induction as with
 | nil=>cases e
 | cons b r ih =>
  rw [List.filterMap_cons] at e
  cases q:h b with
  | none=>rw [q] at e;exact ih e
  | some x =>
   rw [q] at e
   by_cases c:a=b
   ·subst c;rw [q];simpa using e
   ·rw [Option.map_some,List.lookup_cons,beq_eq_false_iff_ne.mpr c] at e;exact ih e
noncomputable def mkDf (K:Frag):(v:Value)→Option (PLift (v=.none∨∃ D,v=.ref D∧∃ c d xs n sl,K.lookup D=some ⟨c,d,.seq xs n,sl⟩))
 | .none=>ok (.inl rfl)
 | .ref D=>(match h:K.lookup D with
  | some ⟨_,_,.seq _ _,_⟩=>ok (.inr ⟨D,rfl,_,_,_,_,_,h⟩)
  | _=>none)
 | _=>none
noncomputable def mkRaw (K:Frag) (f:Nat) (B attr:Str) {Arg:Expr→Prop} (arg:(e:Expr)→Option (PLift (Arg e))):Option (PLift (MkOk K f B attr Arg)):=match h:K.lookup f with
 | some ⟨c,d,.func fd,sl⟩=>(match hb:fd.body with
  | .stmts body=>gp (fd.closure=[]) fun h1=>gp (fd.globals=mainGlobals) fun h2=>gp (fd.builtins=builtinsNs) fun h3=>gp (fd.params.args.map (·.arg)=([Str.ofString "self",attr]:List Str)) fun h4=>gd (plainP fd.params) fun h5=>gd (codeIn K fd.code fd.qualname) fun h6=>bd (mkDf K fd.defaults) fun h7 =>
    gp (["self",attr]:List Str).Nodup fun c1=>gp (∀ x∈(["self",attr]:List Str),fd.scope.names.lookup x=some .local) fun c2=>gp (∀ x∈fd.scope.names,x.2≠.cell) fun c3=>gp (fd.scope.kind=.function) fun c4=>gn fd.scope.isGenerator fun c5=>gn fd.scope.isCoroutine fun c6 =>
     bd (mkMaker B attr arg body) fun c7=>gp (fd.scope.names.lookup B=some .globalImplicit) fun c8=>ok ⟨_,body,⟨⟨fd,_,_,_,h,hb,rfl,h1,h2,h3,h4,h5,h6,h7⟩,c1,c2,c3,c4,c5,c6⟩,c7,c8⟩
  | _=>none)
 | _=>none
noncomputable def nsI (K:Frag) (n:Str) (i:Int):Bool:=match nsIn K mainGlobals n with | some (some (.int j _))=>decide (j=i) | _=>false
theorem nsI_ok {K:Frag} {n:Str} {i:Int} (h:nsI K n i=true):∃ t,nsIn K mainGlobals n=some (some (.int i t)):=by
 unfold nsI at h
 split at h
 ·rename_i e;rw [decide_eq_true_eq] at h;rw [h] at e;exact⟨_,e⟩
 ·cases h
noncomputable abbrev nsR (K:Frag) (n:Str) (a:Nat):Prop:=nsIn K mainGlobals n=some (some (.ref a))
structure Fk (K:Frag):Prop where
 fn:∀ p∈tabFn,fnIn K p.1 p.2=true
 att:∀ p∈tabAtt,∀ n∈p.2,AttOk K p.1 n
 mth:∀ p∈tabMth,∀ m∈p.2,MthOk K p.1 m.1 m.2
 ini:∀ p∈tabIni,IniOk K p.1 p.2
 gf:∀ p∈gFns,keepIn K (.ref p.2)=true∧nsR K (Str.ofString p.1) p.2
 gc:∀ p∈gCls,keepIn K (.ref p.2)=true∧nsR K (Str.ofString p.1) p.2
 gi:∀ p∈gInts,nsI K (Str.ofString p.1) p.2=true
 no:∀ x∈(["len","max","min","abs","list","range"]:List Str),nsIn K mainGlobals x=some none
 noE:nsIn K mainGlobals "Exception" = some none
 ce:nsR K "ChessError" 38
 stop:K.lookup 71=some o71→StopOk K
noncomputable def gv {P:Prop} (v:Value):(o:Option CFound)→(o=some (.val v)→Option (PLift P))→Option (PLift P)
 | some (.val u),f=>gp (u=v) fun h=>f (h ▸ rfl)
 | _,_=>none
noncomputable def mkFk (K:Frag):Option (PLift (Fk K)) :=
 gp _ fun h1=>gp (∀ p∈tabAtt,∀ n∈p.2,AttOk K p.1 n) fun h2=>gp (∀ p∈tabMth,∀ m∈p.2,MthOk K p.1 m.1 m.2) fun h3=>gp (∀ p∈tabIni,IniOk K p.1 p.2) fun h4=>gp _ fun h5=>gp _ fun h6=>gp _ fun h7=>gp _ fun h8=>gp _ fun h9=>gp _ fun h10 =>
  gp _ fun a1=>gp _ fun a2=>gp _ fun a3=>gp _ fun a4=>gv _ _ fun a5=>gv _ _ fun a6=>gp _ fun a7=>gp _ fun a8=>gp _ fun a9=>gp _ fun a10=>bd (mkRaw K 35 "Exception" "text" (mkArgN "text")) fun r1=>bd (mkRaw K 68 "ChessError" "nodes" mkArgS) fun r2 =>
   gp _ fun b1=>gp _ fun b2=>gp _ fun b3=>ok ⟨h1,h2,h3,h4,h5,h6,h7,h8,h9,h10,fun h=>⟨⟨h,a1,a2,a3,a4,a5,a6,a7,a8,a9,a10⟩,r1,r2,b1,b2,b3⟩⟩
theorem gnat_in {x:Str} {a:Nat} {l:List (String×Nat)} (h:gnat x l=some a):∃ n,(n,a)∈l∧Str.ofString n=x:=by
 induction l with
 | nil=>cases h
 | cons p r ih =>
  have h:(if Str.ofString p.1=x then some p.2 else gnat x r)=some a:=h
  by_cases e:Str.ofString p.1=x
  ·rw [if_pos e] at h;cases h;exact⟨_,.head _,e⟩
  ·rw [if_neg e] at h;obtain⟨m,m1,m2⟩:=ih h;exact⟨m,.tail _ m1,m2⟩
theorem gint_in {x:Str} {a:Int} {l:List (String×Int)} (h:gint x l=some a):∃ n,(n,a)∈l∧Str.ofString n=x:=by
 induction l with
 | nil=>cases h
 | cons p r ih =>
  have h:(if Str.ofString p.1=x then some p.2 else gint x r)=some a:=h
  by_cases e:Str.ofString p.1=x
  ·rw [if_pos e] at h;cases h;exact⟨_,.head _,e⟩
  ·rw [if_neg e] at h;obtain⟨m,m1,m2⟩:=ih h;exact⟨m,.tail _ m1,m2⟩
theorem mth_in {n:String} {f:Nat} {l:List (String×Nat)} (h:@List.rec _ (fun zz=>Option Nat) none (fun p zz r=>if n=p.1 then some p.2 else r) l=some f):(n,f)∈l:=by
 induction l with
 | nil=>cases h
 | cons p r ih =>
  have h:(if n=p.1 then some p.2 else @List.rec _ (fun zz=>Option Nat) none (fun p zz r=>if n=p.1 then some p.2 else r) r)=some f:=h
  by_cases e:n=p.1
  ·rw [if_pos e] at h;cases h;rw [e];exact .head _
  ·rw [if_neg e] at h;exact .tail _ (ih h)
theorem fa_all {c:Cx} {K:Frag} {mg mb:Str→Option Value} (C:Fk K) (h71:K.lookup 71=some o71) (KX:K.In c.base) (nl:c.base.NoLimit) (g:c.base.Ns mainGlobals mg) (b:c.base.Ns builtinsNs mb) (bb:∀ x:Str,x≠"__name__"→mb x=bootBuiltins x):Fa c theTab K:=by
 refine⟨KX,nl,⟨mg,g,fun x i h=>?_,fun x a h=>?_,fun x a h=>?_,fun x hx=>mg_none_of KX g (C.no x hx),mg_none_of KX g C.noE,mg_of KX g C.ce⟩,
  ⟨mb,b,(bb _ (by decide)).trans (by kernel_rfl),(bb _ (by decide)).trans (by kernel_rfl),(bb _ (by decide)).trans (by kernel_rfl),(bb _ (by decide)).trans (by kernel_rfl),(bb _ (by decide)).trans (by kernel_rfl),(bb _ (by decide)).trans (by kernel_rfl),(bb _ (by decide)).trans (by kernel_rfl)⟩,
  fun x n h=>?_,fun x n f h=>?_,fun x f h=>C.ini _ (row_in h),fun x a h=>?_,fun x a h=>?_,C.stop h71⟩
 ·obtain⟨n,h1,rfl⟩:=gint_in h
  obtain⟨t,ht⟩:=nsI_ok (C.gi _ h1)
  exact⟨t,mg_of KX g ht⟩
 ·obtain⟨n,h1,rfl⟩:=gnat_in h
  exact mg_of KX g (C.gf _ h1).2
 ·obtain⟨n,h1,rfl⟩:=gnat_in h
  exact mg_of KX g (C.gc _ h1).2
 ·have h:((row x tabAtt).any fun l=>l.any fun m=>decide (n=m))=true:=h
  cases q:row x tabAtt with
  | none=>rw [q] at h;cases h
  | some l =>
   rw [q] at h
   obtain⟨m,m1,m2⟩:=List.any_eq_true.1 h
   exact C.att _ (row_in q) _ (of_decide_eq_true m2 ▸ m1)
 ·obtain⟨l,h1,h2⟩:=Option.bind_eq_some_iff.1 h
  exact C.mth _ (row_in h1) _ (mth_in h2)
 ·obtain⟨n,h1,rfl⟩:=gnat_in h
  exact(C.gf _ h1).1
 ·obtain⟨n,h1,rfl⟩:=gnat_in h
  exact(C.gc _ h1).1
end Bm
namespace Bm
open PySem PySem.W PyProof.Rows
noncomputable def topG (ok:Thread→Bool) (st:SharedT→Thread→Option (SharedT×Thread)):Nat→SharedT→Thread→Option SharedT
 | 0,_,_=>none
 | n+1,s,t=>match through t with
  | true=>some s
  | false=>match ok t with
   | false=>none
   | true=>match st s t with
    | some (s',t')=>topG ok st n s' t'
    | none=>none
theorem topG_of {tb:String→Option Builtin} {p:Program} {w:World} {n₀:Nat} {ann:Option Value} {n:Nat}:∀ {s s':SharedT} {t:Thread},topG (stepOk n₀ ann) (stepT (denote tb) p w) n s t=some s'→topRun tb p w n₀ ann n s.abs t=some s'.abs:=by
 induction n with
 | zero=>exact fun h=>nomatch h
 | succ n ih =>
  intro s s' t h
  unfold topG at h
  unfold topRun
  cases ht:through t with
  | true=>rw [ht] at h;cases h;rfl
  | false =>
   rw [ht] at h
   cases hk:stepOk n₀ ann t with
   | false=>rw [hk] at h;cases h
   | true =>
    rw [hk] at h
    cases hs:stepT (denote tb) p w s t with
    | none=>rw [hs] at h;cases h
    | some r=>rw [hs] at h;dsimp only;rw [stepT_spec hs];exact ih h
noncomputable def topQ (n₀:Nat) (ann:Option Value) (p:Program) (w:World):Nat→SharedT→Thread→Option SharedT:=topG (Fast.tw6613529449190102663 n₀ ann) (Fast.tw10156331382660048174 (Fast.tw11892475500146522536 Fast.tw14364793385576792824) p w)
theorem topQ_eq {n₀:Nat} {ann:Option Value} {p:Program} {w:World}:topQ n₀ ann p w=topG (stepOk n₀ ann) (stepT (denote treeTable) p w):=by
 unfold topQ
 rw [← Fast.te6613529449190102663,← Fast.te10156331382660048174,← Fast.te11892475500146522536,← Fast.te14364793385576792824]
noncomputable def mkBT:List Obj→Nat→BT→BT
 | [],_,t=>t
 | o::l,i,t=>mkBT l (i+1) (t.ins i o)
noncomputable def sees (p q:Program) (loose:List Str) (h₀:Heap) (Xt:Shared→Bool) (s:Shared) :=
 (staticsOk (importedModules p.main.body) h₀ s.heap&&namesBound p s.heap&&gensDone s&&laidKept h₀ s.heap,openSeen q loose (importedModules p.main.body) Xt true s)
noncomputable def getT (s:SharedT) (a:Nat):Option Obj:=cond (Nat.blt a s.n) (alive ((s.tree.get a).getD default)) none
theorem getT_eq {s:SharedT}:getT s=s.abs.heap.get?:=by
 funext a
 show _=(absHeap s.tree s.n s.life).get? a
 unfold getT Heap.get?
 rw [absHeap_at]
 by_cases h:a < s.n
 ·rw [if_pos h,show Nat.blt a s.n=true from Nat.ble_eq_true_of_le h]
  show alive _=_
  generalize (s.tree.get a).getD default=o
  obtain⟨c,d,dt,sl⟩:=o
  cases dt <;> rfl
 ·rw [if_neg h]
  cases q:Nat.blt a s.n with
  | true=>exact absurd (Nat.le_of_ble_eq_true q) h
  | false=>rfl
theorem left_of {p q:Program} {loose:List Str} {α:Type} {Xt:Shared→Bool} {F:(Nat→Option Obj)→α} {y:α} {N:Nat} {H₀:Params→Heap} {gs₀:Array GenState} {d₀:Drawn} {k₀:Nat} {S:World→OsState→SharedT}
  (open_:∀ w:World,(fencedOpening treeTable p w N).map (fun s=>(s.heap,s.gens,s.drawn,s.toks))=some (H₀ w.params,gs₀,d₀,k₀)) (size:∀ w:World,((H₀ w.params).isNs mainGlobals&&gs₀.size == 0)=true)
  (st:∀ w os,(S w os).abs=⟨H₀ w.params,gs₀,d₀,k₀,os⟩)
  (h:∀ w os,(topQ (H₀ w.params).objs.size ((H₀ w.params).nsMap mainGlobals "__annotations__") p w N (S w os) (topStub p)).map (fun s=>sees p q loose (H₀ w.params) Xt s.abs)=some (true,openGood q loose))
  (h':∀ w os,(topQ (H₀ w.params).objs.size ((H₀ w.params).nsMap mainGlobals "__annotations__") p w N (S w os) (topStub p)).map (fun s=>F (getT s))=some y):LeftO p q loose Xt (fun s=>F s.heap.get?) (fun zz=>y) N:=fun w=>by
 obtain⟨⟨hp,gs,d,k,os⟩,e,e'⟩:=Option.map_eq_some_iff.mp (open_ w)
 obtain⟨rfl,rfl,rfl,rfl⟩:hp=H₀ w.params∧gs=gs₀∧d=d₀∧k=k₀:=by simpa using e'
 obtain⟨s,hs,hv⟩:=Option.map_eq_some_iff.mp (h w os)
 obtain⟨s',hs',hy⟩:=Option.map_eq_some_iff.mp (h' w os)
 cases hs.symm.trans hs'
 rw [topQ_eq] at hs
 have r:=topG_of hs
 rw [st] at r
 rw [getT_eq] at hy
 have l1:(staticsOk (importedModules p.main.body) (H₀ w.params) s.abs.heap&&namesBound p s.abs.heap&&gensDone s.abs&&laidKept (H₀ w.params) s.abs.heap)=true:=congrArg Prod.fst hv
 have t:topFrom treeTable p w N ⟨H₀ w.params,gs,d,k,os⟩=some s.abs:=by
  unfold topFrom
  dsimp only
  rw [size w,r]
  show(match staticsOk (importedModules p.main.body) (H₀ w.params) s.abs.heap&&namesBound p s.abs.heap&&gensDone s.abs&&laidKept (H₀ w.params) s.abs.heap with | true=>_ | false=>_)=_
  rw [l1]
 unfold openEnds
 rw [e]
 exact(congrArg (Option.map _) t).trans (congrArg some (Prod.ext (congrArg Prod.snd hv) hy))
noncomputable abbrev pr:=PySem.Challenge.rw_pb0080_01.row.prog
noncomputable def st0 (w:World) (os:OsState):SharedT:=⟨mkBT (boot_heap w.params).objs.toList 0 .nil,(boot_heap w.params).objs.size,(boot_heap w.params).life,Array.mk [],boot_drawn,boot_toks,os⟩
noncomputable def vq:Program:=view pr [92]
noncomputable def vl:List Str:=pr.boundNames.filter fun x=>!(x == "law")
noncomputable def ka:List Nat:=[3,2,38,37,71,70,137,136,284,283,347,346,389,388,464,463,548,547,686,685,61,35,34,68,67,92,91,99,98,106,105,113,112,127,126,134,133,148,147,155,154,162,161,169,168,176,175,183,182,190,189,197,196,204,203,211,210,218,217,225,224,232,231,246,245,253,252,260,259,267,266,295,294,302,301,316,315,323,322,330,329,337,336,365,364,372,371,379,378,386,385,400,399,407,406,414,413,428,427,435,434,440,439,447,446,454,453,461,460,475,474,482,481,489,488,496,495,503,502,510,509,517,516,524,523,531,530,545,544,559,558,566,565,573,572,580,579,587,586,594,593,608,607,615,614,620,619,627,626,634,633,641,640,648,647,655,654,662,661,669,668,676,675,683,682,697,696,702,701,709,708,716,715,721,720,728,727,735,734,740,739,747,746,752,751]
noncomputable def top (w:World) (os:OsState):Option SharedT:=topQ (boot_heap w.params).objs.size ((boot_heap w.params).nsMap mainGlobals "__annotations__") pr w 5400 (st0 w os) (topStub pr)
noncomputable def kf (h:Nat→Option Obj):Bool×Option Obj:=((mkFk (frag h ka)).isSome,(frag h ka).lookup 71)
noncomputable def xt (s:Shared):Bool:=true
theorem two_of {α β γ:Type} {o:Option α} {f:α→β} {g:α→γ} {b:β} {c:γ} (h:o.map (fun s=>(f s,g s))=some (b,c)):o.map f=some b∧o.map g=some c:=by
 cases o with
 | none=>cases h
 | some a=>have h:=Option.some.inj h;exact⟨congrArg some (congrArg Prod.fst h),congrArg some (congrArg Prod.snd h)⟩
theorem top_ab (w:World) (os:OsState):(top w os).map (fun s=>(sees pr vq vl (boot_heap w.params) xt s.abs,kf (getT s)))=some ((true,openGood vq vl),(true,some o71)):=by kernel_rfl
theorem left_pr:LeftO pr vq vl xt (fun s=>kf s.heap.get?) (fun zz=>(true,some o71)) 5400 :=
 left_of (H₀:=boot_heap) (gs₀:=Array.mk []) (d₀:=boot_drawn) (k₀:=boot_toks) (S:=st0) (boot_open (by kernel_rfl) (by kernel_rfl) (fun zz=>by kernel_rfl)) (fun zz=>by kernel_rfl) (fun zz zz=>by kernel_rfl) (fun w os=>(two_of (top_ab w os)).1) (fun w os=>(two_of (top_ab w os)).2)
end Bm
namespace Bm
open PySem PySem.W PyProof.Rows
theorem ints_l2 {vs:List Value} {ns:List Int} (h:IntsAre vs ns):L2 VR vs (Bn.intsL ns):=by
 induction h with
 | nil=>exact .nil
 | cons n t _ ih=>exact .cons (.int n t) ih
theorem start {p:Program} {w:World} {s:Shared} {la:Nat} {vs:List Value} {ns:List Int} (hl:s.heap.IsList la vs.toArray) (hi:IntsAre vs ns) (h63:ns.length≤63) :
  StC ⟨p,w,s.heap,s.gens,s.drawn,s.os⟩ (fun a=>match s.heap.get? a with | some _=>.base | none=>.free) [] [] (fun a=>if a=la then some (.ro (Bn.intsL ns)) else none) s:=by
 have base:∀ a o,s.heap.get? a=some o→(match s.heap.get? a with | some _=>Kd.base | none=>.free)=.base:=fun a o e=>by rw [e]
 refine⟨fun b o e=>⟨base b o e,e⟩,fun a ha=>?_,fun a ao e=>?_,(fun p hp=>nomatch hp),(fun e he=>nomatch he),rfl,rfl,rfl⟩
 ·cases e:s.heap.get? a with
  | some o=>exact⟨o,rfl⟩
  | none=>exact absurd (show(match s.heap.get? a with | some _=>Kd.base | none=>.free)=.free by rw [e]) ha
 ·by_cases c:a=la
  ·rw [if_pos c] at e
   cases e
   obtain⟨o,h1,h2⟩:=hl
   rw [c]
   have hr:=ints_l2 hi
   have hL:vs.length≤lim:=by
    have:=hr.length
    rw [Bn.ints_len] at this
    unfold lim;lia
   exact⟨base _ _ h1,vs.toArray,⟨o,h1,h2⟩,hr,hL⟩
  ·rw [if_neg c] at e;cases e
theorem law_call {p:Program} {w:World} {K:Frag} {s:Shared} {mg mb:Str→Option Value} (C:Fk K) (h71:K.lookup 71=some o71) (KX:K.In s.heap) (nl:s.heap.NoLimit) (g:s.heap.Ns mainGlobals mg) (b:s.heap.Ns builtinsNs mb) (bb:∀ x:Str,x≠"__name__"→mb x=bootBuiltins x)
  {la:Nat} {vs:List Value} {ns:List Int} (hl:s.heap.IsList la vs.toArray) (hi:IntsAre vs ns) (h63:ns.length≤63) :
  codeAny (model p w) callerA (.call (.ref 752) ⟨[.ref la],[]⟩) (fun r s'=>r=.ok (.ret (.bool true))∧(∀ b o,s.heap.get? b=some o→s'.heap.get? b=some o)∧s'.gens=s.gens∧s'.os=s.os) s:=by
 refine codeAny_mono (callOk (c:=⟨p,w,s.heap,s.gens,s.drawn,s.os⟩) (fa_all C h71 KX nl g b bb) (fun f fn h=>C.fn _ (row_in h)) 40 false 752 [.ref la] (fun a=>if a=la then some (.ro (Bn.intsL ns)) else none) (fun v zz=>v=.bool true) (fun zz zz=>False)
  (Bn.x_law 0 _ la ns (if_pos rfl) _ _ fun zz=>rfl) callerA [] [] _ s [.ref la] (fun a=>by cases e:s.heap.get? a <;> exact fun q=>nomatch q) (.cons (.ref la) .nil) (start hl hi h63) ⟨by decide,by decide⟩ rfl (fun zz=>rfl)) fun r s' h=>?_
 unfold RP at h
 split at h
 ·obtain⟨G,av,H',_,hv,S,rfl⟩:=h
  cases hv
  exact⟨rfl,fun b o e=>(S.keep b o e).2,S.gens,S.os⟩
 ·exact h.elim
 ·obtain⟨G,ea,n,H',_,_,_,_,hx⟩:=h
  exact hx.elim
end Bm
open PySem PySem.W PyProof.Rows
namespace Bm
noncomputable def dl:DefRec×List (Str×Expr):=(defOf vq "law").getD ⟨⟨"",default,[],default,default⟩,[]⟩
theorem dl_name:dl.1.name = "law":=by kernel_rfl
theorem lk_a:namesResolve pr=true:=by kernel_rfl
theorem lk_b:noRoadLSs { strict:=!(importedModules pr.main.body).all cThrough.contains,foot:=none,bare:=(["vars","dir","locals"]:List Str).filter (readsOut pr pr.main.body) } pr.main.body=true:=by kernel_rfl
theorem lk_c:(namesMeet pr pr.main.body fun zz n=>attrL n)=true:=by kernel_rfl
theorem lk_d:looksOpen pr=true:=by
 unfold looksOpen
 rw [lk_a,lk_b,lk_c]
 kernel_rfl
theorem lk_e:PySem.Challenge.rw_pb0080_01.wellSaid=true:=by
 unfold OpenLaw.wellSaid OpenRow.wellSaid OpenRow.partSaid
 rw [show looksOpen PySem.Challenge.rw_pb0080_01.row.prog=true from lk_d]
 kernel_rfl
theorem lk_f:pr.tablesWhole=true:=by kernel_rfl
theorem holds (call:WalkO vq vl (fun zz zz=>True) (fun zz h=>∃ K,Fk K∧K.lookup 71=some o71∧K.In h) PySem.Challenge.rw_pb0080_01.row.toRowW dl.1 dl.2 fun f vs=>PySem.call f vs):PySem.Challenge.rw_pb0080_01.Holds :=
 holds_law lk_e fun said=>holds_open (q:=vq) (loose:=vl) (Xt:=xt) (XP:=fun zz zz=>True) (Yf:=fun s=>kf s.heap.get?) (Ya:=fun zz=>(true,some o71)) (YP:=fun zz h=>∃ K,Fk K∧K.lookup 71=some o71∧K.In h) (N:=5400) left_pr
  (fun zz s e=>⟨frag s.heap.get? ka,some_of (congrArg Prod.fst e),congrArg Prod.snd e,fun zz zz e=>frag_at e⟩) (fun _ h h' ⟨K,a,b,c⟩ k=>⟨K,a,b,c.keeps k⟩) (fun zz zz=>trivial) (fun zz zz zz h zz=>h)
  (by kernel_rfl) (by kernel_rfl) (by kernel_rfl) (fun zz zz=>recFacts_nil rfl) rfl said (by kernel_rfl) ⟨rfl,rfl,rfl,rfl,rfl,lk_f⟩ ⟨[.list [.int 3]],by kernel_rfl,by kernel_rfl⟩ call
end Bm
theorem PySem.Challenge.cw_pb0080_01_holds : PySem.Challenge.rw_pb0080_01.Holds := by
 refine Bm.holds ?_
 intro w s₀ s₁ mg mb G Y fa o pm cd doc dV kV ho hd hcd hD hmg hg args vals as hpre hlay hrd hwl hlo
 obtain⟨K,C,h71,KX⟩:=Y
 clear hcd hD hd ho
 refine Ground.open G ?_
 intro T B D TE TW
 have hfa:fa=752:=by
  rw [Bm.dl_name] at hmg
  have e:=(mg_of KX T.g (C.gf ("law",752) (by decide)).2).symm.trans hmg
  cases e;rfl
 subst hfa
 clear D B TE TW hmg
 wrow_args hpre hlay hrd hwl hlo
 all_goals (first | refine callC_kw (enter_call ?_) | refine enter_call ?_ | refine callC_kw (enter_callW ?_) | refine enter_callW ?_ | w_how)
 refine codeAny_mono (Bm.law_call C h71 KX T.nolimit T.g T.b T.builtins (by assumption) (by assumption) (by omega)) ?_
 rintro r s' ⟨rfl,hk,hgn,hos⟩
 refine GoodW.toG ⟨.inl ⟨_,.bool true,[],rfl,?_,?_,?_,?_⟩,hk,hos,by rw [hgn];exact hg⟩
 ·exact raisesW_false (by wrow_none_raised)
 ·exact ReadsW.bool _
 ·wrow_post
 ·exact unshared_nil
