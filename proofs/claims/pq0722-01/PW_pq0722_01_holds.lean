import PyProof.Rows.All
import Wide.All
import OpenK.AllK
import Wide.FinOn
import PyProof.AttrMissHeap
import PyProof.Rows.StrCountLaw
import OpenK.TopRead
import Lean
import PySem.Challenge.RW_pq0722_01
set_option Elab.async false
set_option maxRecDepth 100000
set_option linter.all false
set_option genInjectivity false
set_option genSizeOf false
namespace Mine
section
open PySem
inductive DV where
 | none | bool (b:Bool) | int (i:Int) | str (s:List Nat) | tup (l:List DV) | lst (l:List DV) | opq (i:Nat)
inductive PK where
 | len | abs | max | sorted | tuple | list | dict | int
 deriving DecidableEq
inductive AV where
 | dat (d:DV) | loc (n:Nat) | inst (c n:Nat) | rloc (n:Nat) | rinst (c n:Nat) | fn (k:Nat) | cl (k:Nat) | pr (k:PK) | mix (l:List AV) | obj
inductive AO where
 | list (l:List AV)
 | ns (fs:List (Nat×AV))
 | dict (es:List (List Nat×AV))
 | lost
noncomputable abbrev Hp:=List AO
inductive MC where
 | none | bool (b:Bool) | int (i:Int) | str (s:Nat)
noncomputable abbrev Sc:=List (Nat×NameKind)
inductive MX where
 | var (i p:Nat) | glob (i p:Nat) | const (c:MC) (p:Nat)
 | bop (isAnd:Bool) (xs:List MX) (p:Nat)
 | bin (op:Operator) (l r:MX) (p:Nat)
 | not (x:MX) (p:Nat) | neg (x:MX) (p:Nat)
 | ite (t b e:MX) (p:Nat)
 | tup (xs:List MX) (k p:Nat) | lst (xs:List MX) (p:Nat)
 | dct (ks vs:List MX) (p:Nat)
 | cmp (op:CmpOp) (l r:MX) (p:Nat)
 | call (f:MX) (xs:List MX) (p:Nat)
 | callk (f:MX) (xs:List MX) (kn:Nat) (kv:MX) (kp p:Nat)
 | meth (o:MX) (nm:Nat) (xs:List MX) (ap p:Nat)
 | attr (o:MX) (nm p:Nat)
 | sub (o i:MX) (p:Nat)
 | slc (o:MX) (l u s:Option MX) (sp p:Nat)
 | comp (elt:MX) (gens:List MX) (sc:Sc) (p:Nat)
 | gen (t it:MX) (ifs:List MX)
 | mk (x:MX)
inductive MS where
 | asg (t e:MX) (p:Nat)
 | ifs (c:MX) (a b:List MS) (p:Nat)
 | fors (t it:MX) (body:List MS) (p:Nat)
 | whl (c:MX) (body:List MS) (p:Nat)
 | ret (e:MX) (p:Nat)
 | exp (e:MX) (p:Nat)
 | rais (e:MX) (p:Nat)
 | pass (p:Nat)
structure Names where
 nm:Nat→Str
 cd:Nat→List Nat
noncomputable def pz (n:Nat):Pos:=⟨n / 1000000000,n / 1000000 % 1000,n / 1000 % 1000,n % 1000⟩
section
variable (N:Nat→Str)
noncomputable def MC.un:MC→Const
 | .none=>.none | .bool b=>.bool b | .int i=>.int i | .str s=>.str (N s)
noncomputable def scUn (sc:Sc):Scope:={kind:=.function,names:=sc.map fun x=>(N x.1,x.2),isGenerator:=false,isCoroutine:=false,more:=[]}
noncomputable def scM (sc:Sc) (mr:List (Str×Const)):Scope:={kind:=.function,names:=sc.map fun x=>(N x.1,x.2),isGenerator:=false,isCoroutine:=false,more:=mr}
mutual
noncomputable def untr:MX→Expr
 | .var i p=>.Name (N i) (pz p)
 | .glob i p=>.Name (N i) (pz p)
 | .const c p=>.Constant (c.un N) 0 (pz p)
 | .bop a xs p=>.BoolOp (if a then .And else .Or) (untrL xs) (pz p)
 | .bin op l r p=>.BinOp (untr l) op (untr r) (pz p)
 | .not x p=>.UnaryOp .Not (untr x) (pz p)
 | .neg x p=>.UnaryOp .USub (untr x) (pz p)
 | .ite t b e p=>.IfExp (untr t) (untr b) (untr e) (pz p)
 | .tup xs k p=>.Tuple (untrL xs) k (pz p)
 | .lst xs p=>.List (untrL xs) (pz p)
 | .dct ks vs p=>.Dict (untrO ks) (untrL vs) (pz p)
 | .cmp op l r p=>.Compare (untr l) [op] [untr r] (pz p)
 | .call f xs p=>.Call (untr f) (untrL xs) [] (pz p)
 | .callk f xs kn kv kp p=>.Call (untr f) (untrL xs) [⟨some (N kn),untr kv,pz kp⟩] (pz p)
 | .meth o nm xs ap p=>.Call (.Attribute (untr o) (N nm) (pz ap)) (untrL xs) [] (pz p)
 | .attr o nm p=>.Attribute (untr o) (N nm) (pz p)
 | .sub o i p=>.Subscript (untr o) (untr i) (pz p)
 | .slc o l u s sp p=>.Subscript (untr o) (.Slice (untrM l) (untrM u) (untrM s) (pz sp)) (pz p)
 | .comp elt gens sc p=>.ListComp (untr elt) (untrG gens) (scUn N sc) (pz p)
 | .gen _ _ _=>.Constant .none 0 (pz 0)
 | .mk x=>untr x
noncomputable def untrL:List MX→List Expr
 | []=>[]
 | x::r=>untr x::untrL r
noncomputable def untrO:List MX→List (Option Expr)
 | []=>[]
 | x::r=>some (untr x)::untrO r
noncomputable def untrM:Option MX→Option Expr
 | none=>none
 | some x=>some (untr x)
noncomputable def untrG:List MX→List Comprehension
 | []=>[]
 | x::r=>untrC x::untrG r
noncomputable def untrC:MX→Comprehension
 | .gen t it ifs=>⟨untr t,untr it,untrL ifs,0⟩
 | _=>⟨.Constant .none 0 (pz 0),.Constant .none 0 (pz 0),[],0⟩
end
mutual
noncomputable def untrS:MS→Stmt
 | .asg t e p=>.Assign [untr N t] (untr N e) (pz p)
 | .ifs c a b p=>.If (untr N c) (untrSs a) (untrSs b) (pz p)
 | .fors t it body p=>.For (untr N t) (untr N it) (untrSs body) [] (pz p)
 | .whl c body p=>.While (untr N c) (untrSs body) [] (pz p)
 | .ret e p=>.Return (some (untr N e)) (pz p)
 | .exp e p=>.Expr (untr N e) (pz p)
 | .rais e p=>.Raise (some (untr N e)) none (pz p)
 | .pass p=>.Pass (pz p)
noncomputable def untrSs:List MS→List Stmt
 | []=>[]
 | s::r=>untrS s::untrSs r
end
end
section
variable {α β γ δ:Type} {P:Prop}
noncomputable def ob (o:Option α) (f:α→Option β):Option β:=Option.rec none f o
noncomputable def ob2 (o:Option (α×β)) (f:α→β→Option γ):Option γ:=Option.rec none (fun p=>f p.1 p.2) o
noncomputable def ob3 (o:Option (α×β×γ)) (f:α→β→γ→Option δ):Option δ:=Option.rec none (fun p=>f p.1 p.2.1 p.2.2) o
noncomputable def gb (b:Bool) (o:Option α):Option α:=Bool.rec none o b
noncomputable def alt (o p:Option α):Option α:=Option.rec p some o
noncomputable def optB (o:Option α) (f:α→Bool):Bool:=Option.rec false f o
noncomputable def lrec (n:β) (c:α→List α→β→β) (l:List α):β:=List.rec n c l
theorem nos {a:α} (h:(none:Option α)=some a):P:=nomatch h
theorem nft (h:false=true):P:=nomatch h
theorem ob_e {o:Option α} {f:α→Option β} {r:β} (h:ob o f=some r) (k:∀ a,o=some a→f a=some r→P):P:=by
 cases o with
 | none=>exact nos h
 | some a=>exact k a rfl h
theorem ob2_e {o:Option (α×β)} {f:α→β→Option γ} {r:γ} (h:ob2 o f=some r) (k:∀ a b,o=some (a,b)→f a b=some r→P):P:=by
 cases o with
 | none=>exact nos h
 | some p=>exact k p.1 p.2 rfl h
theorem ob3_e {o:Option (α×β×γ)} {f:α→β→γ→Option δ} {r:δ} (h:ob3 o f=some r) (k:∀ a b c,o=some (a,b,c)→f a b c=some r→P):P:=by
 cases o with
 | none=>exact nos h
 | some p=>exact k p.1 p.2.1 p.2.2 rfl h
theorem gb_e {b:Bool} {o:Option α} {r:α} (h:gb b o=some r) (k:b=true→o=some r→P):P:=by
 cases b with
 | false=>exact nos h
 | true=>exact k rfl h
theorem alt_e {o p:Option α} {r:α} (h:alt o p=some r) (k:o=some r→P) (l:p=some r→P):P:=by
 cases o with
 | none=>exact l h
 | some a=>exact k h
theorem optB_e {o:Option α} {f:α→Bool} (h:optB o f=true) (k:∀ a,o=some a→f a=true→P):P:=by
 cases o with
 | none=>exact nft h
 | some a=>exact k a rfl h
theorem cond_e {a b:Bool} (h:cond a b false=true) (k:a=true→b=true→P):P:=by
 cases a with
 | false=>exact nft h
 | true=>exact k rfl h
theorem and_e {a b:Bool} (h:(a&&b)=true) (k:a=true→b=true→P):P:=by
 cases a with
 | false=>exact nft h
 | true=>exact k rfl h
theorem pr_e {a c:α} {b d:β} (h:some (a,b)=some (c,d)) (k:a=c→b=d→P):P:=k (congrArg (·.1) (Option.some.inj h)) (congrArg (·.2) (Option.some.inj h))
theorem tr_e {a a':α} {b b':β} {c c':γ} (h:some (a,b,c)=some (a',b',c')) (k:a=a'→b=b'→c=c'→P):P:=k (congrArg (·.1) (Option.some.inj h)) (congrArg (·.2.1) (Option.some.inj h)) (congrArg (·.2.2) (Option.some.inj h))
noncomputable def v1 (l:List α):Option α:=List.rec none (fun a l _=>List.rec (some a) (fun _ _ _=>none) l) l
noncomputable def v2 (l:List α):Option (α×α):=List.rec none (fun a l _=>ob (v1 l) fun b=>some (a,b)) l
theorem v1_eq {l:List α} {a:α} (h:v1 l=some a):l=[a]:=by
 cases l with
 | nil=>exact nos h
 | cons b r=>cases r with
  | nil=>exact congrArg (fun x=>[x]) (Option.some.inj h)
  | cons=>exact nos h
theorem v2_eq {l:List α} {p:α×α} (h:v2 l=some p):l=[p.1,p.2]:=by
 cases l with
 | nil=>exact nos h
 | cons x r=>exact ob_e (o:=v1 r) h fun b e h=>by rw [v1_eq e,← Option.some.inj h]
end
structure FnI where
 ps:List Nat
 dfl:List DV
 sc:Sc
 body:List MS
 iso:Bool
structure ClI where
 init:Nat
 meths:List (Nat×Nat)
 attrs:List Nat
structure Cfg where
 cd:Nat→List Nat
 gl:Nat→Option AV
 fn:Nat→Option FnI
 cl:Nat→Option ClI
 base:List AO
 con:Nat→Option (Nat×(List AV→Hp→Option (AV×Hp)))
structure Fm where
 sc:Sc
 vars:List (Nat×AV)
 dep:Nat
inductive Fl where
 | next | ret (v:AV)
noncomputable def flr {β:Type} (f:Fl) (a:β) (r:AV→β):β:=Fl.rec a r f
noncomputable def lookN {α:Type} (l:List (Nat×α)) (i:Nat):Option α:=lrec none (fun p _ q=>cond (Nat.beq p.1 i) (some p.2) q) l
noncomputable def memN (l:List Nat) (i:Nat):Bool:=lrec false (fun p _ q=>cond (Nat.beq p i) true q) l
noncomputable def putN {α:Type} (l:List (Nat×α)) (i:Nat) (v:α):List (Nat×α):=lrec [(i,v)] (fun p r q=>cond (Nat.beq p.1 i) ((i,v)::r) (p::q)) l
noncomputable def listBeq (l:List Nat):List Nat→Bool:=lrec (fun r=>r.isEmpty) (fun a _ q r=>List.rec false (fun b r _=>cond (Nat.beq a b) (q r) false) r) l
noncomputable def lookS {α:Type} (l:List (List Nat×α)) (i:List Nat):Option α:=lrec none (fun p _ q=>cond (listBeq p.1 i) (some p.2) q) l
noncomputable def putS {α:Type} (l:List (List Nat×α)) (i:List Nat) (v:α):List (List Nat×α):=lrec [(i,v)] (fun p r q=>cond (listBeq p.1 i) ((p.1,v)::r) (p::q)) l
noncomputable def no {α β:Type} (_:α):Option β:=none
noncomputable def asBool (d:DV):Option Bool:=DV.casesOn d none some no no no no no
noncomputable def asInt (d:DV):Option Int:=DV.casesOn d none no some no no no no
noncomputable def asNum (d:DV):Option Int:=DV.casesOn d none (fun b=>some (cond b 1 0)) some no no no no
noncomputable def asStr (d:DV):Option (List Nat):=DV.casesOn d none no no some no no no
noncomputable def asTup (d:DV):Option (List DV):=DV.casesOn d none no no no some no no
noncomputable def asLst (d:DV):Option (List DV):=DV.casesOn d none no no no no some no
noncomputable def asOpq (d:DV):Option Nat:=DV.casesOn d none no no no no no some
noncomputable def isNoneD (d:DV):Bool:=DV.casesOn d true (fun _=>false) (fun _=>false) (fun _=>false) (fun _=>false) (fun _=>false) (fun _=>false)
noncomputable def rdV {α:Type} (d:DV→Option α) (l:Nat→Option α) (i:Nat→Nat→Option α) (rl:Nat→Option α) (ri:Nat→Nat→Option α) (f c:Nat→Option α) (p:PK→Option α) (m:List AV→Option α) (a:AV):Option α:=AV.casesOn a d l i rl ri f c p m none
noncomputable def no2 {α γ β:Type} (_:α) (_:γ):Option β:=none
noncomputable def no3 {α γ δ β:Type} (_:α) (_:γ) (_:δ):Option β:=none
noncomputable def dV:AV→Option DV:=rdV some no no2 no no2 no no no no
noncomputable def locV:AV→Option Nat:=rdV no some no2 no no2 no no no no
noncomputable def instV:AV→Option (Nat×Nat):=rdV no no (fun c n=>some (c,n)) no no2 no no no no
noncomputable def rlocV:AV→Option Nat:=rdV no no no2 some no2 no no no no
noncomputable def rinstV:AV→Option (Nat×Nat):=rdV no no no2 no (fun c n=>some (c,n)) no no no no
noncomputable def fnV:AV→Option Nat:=rdV no no no2 no no2 some no no no
noncomputable def clV:AV→Option Nat:=rdV no no no2 no no2 no some no no
noncomputable def prV:AV→Option PK:=rdV no no no2 no no2 no no some no
noncomputable def mixV:AV→Option (List AV):=rdV no no no2 no no2 no no no some
noncomputable def boolV (a:AV):Option Bool:=ob (dV a) asBool
noncomputable def intV (a:AV):Option Int:=ob (dV a) asInt
noncomputable def strV (a:AV):Option (List Nat):=ob (dV a) asStr
noncomputable def tupV (a:AV):Option (List DV):=ob (dV a) asTup
noncomputable def lstV (a:AV):Option (List DV):=ob (dV a) asLst
noncomputable def noneV (a:AV):Bool:=optB (dV a) isNoneD
noncomputable def lO (o:Option AO):Option (List AV):=ob o fun o=>AO.casesOn o some no no none
noncomputable def nO (o:Option AO):Option (List (Nat×AV)):=ob o fun o=>AO.casesOn o no some no none
noncomputable def dO (o:Option AO):Option (List (List Nat×AV)):=ob o fun o=>AO.casesOn o no no some none
noncomputable def le (n m:Nat):Bool:=Nat.ble n m
class OpqE where
 eqo:Nat→Nat→Option Bool
noncomputable def depD:DV→Nat:=DV.rec (motive_2:=fun _=>Nat) 0 (fun _=>0) (fun _=>0) (fun _=>0) (fun _ n=>n+1) (fun _ n=>n+1) (fun _=>20) 0 fun _ _ a b=>Nat.max a b
noncomputable def depL:List DV→Nat:=DV.rec_1 (motive_1:=fun _=>Nat) 0 (fun _=>0) (fun _=>0) (fun _=>0) (fun _ n=>n+1) (fun _ n=>n+1) (fun _=>20) 0 fun _ _ a b=>Nat.max a b
noncomputable def cloD:DV→Bool:=DV.rec (motive_2:=fun _=>Bool) true (fun _=>true) (fun _=>true) (fun _=>true) (fun _ n=>n) (fun _ n=>n) (fun _=>false) true fun _ _ a b=>cond a b false
noncomputable def cloL:List DV→Bool:=DV.rec_1 (motive_1:=fun _=>Bool) true (fun _=>true) (fun _=>true) (fun _=>true) (fun _ n=>n) (fun _ n=>n) (fun _=>false) true fun _ _ a b=>cond a b false
noncomputable def nOpq {α:Type} (e:DV) (x:Option α):Option α:=Option.rec x (fun _=>none) (asOpq e)
noncomputable def eqNum (i:Int) (e:DV):Option Bool:=nOpq e (some (optB (asNum e) fun j=>i==j))
section
variable [OpqE]
noncomputable def deqO:DV→DV→Option Bool:=DV.rec (motive_2:=fun _=>List DV→Option Bool) (fun e=>nOpq e (some (isNoneD e))) (fun b=>eqNum (cond b 1 0)) eqNum (fun s e=>nOpq e (some (optB (asStr e) (listBeq s))))
 (fun _ q e=>nOpq e (Option.rec (some false) q (asTup e))) (fun _ q e=>nOpq e (Option.rec (some false) q (asLst e))) (fun i e=>ob (asOpq e) (OpqE.eqo i))
 (fun r=>some r.isEmpty) fun _ _ p q r=>List.rec (some false) (fun e r _=>ob (p e) fun t=>cond t (q r) (some false)) r
noncomputable def anyEqO (d:DV) (l:List DV):Option Bool:=lrec (some false) (fun a _ q=>ob (deqO a d) fun t=>cond t (some true) q) l
end
noncomputable def datL (l:List DV):List AV:=l.map .dat
noncomputable def allDat (l:List AV):Option (List DV):=lrec (some []) (fun a _ q=>ob (dV a) fun d=>ob q fun l=>some (d::l)) l
noncomputable def mkTup (l:List AV):AV:=Option.rec (.mix l) (fun ds=>.dat (.tup ds)) (allDat l)
noncomputable def lstOf (H:Hp) (a:AV):Option (List AV):=alt (ob (lstV a) fun l=>some (datL l)) (ob (locV a) fun n=>lO H[n]?)
noncomputable def tupI (v:AV):Option (List AV):=alt (ob (tupV v) fun l=>some (datL l)) (mixV v)
noncomputable def seqOf (H:Hp) (a:AV):Option (List AV):=alt (lstOf H a) (tupI a)
noncomputable def nthI (l:List AV) (i:Int):Option AV:=Int.rec (fun k=>gb (le k 1000000) l[k]?) (fun k=>gb (le (k+1) l.length&&le k 1000000) l[l.length - (k+1)]?) i
noncomputable def strLt (l:List Nat):List Nat→Bool:=lrec (fun r=>!r.isEmpty) (fun a _ q r=>List.rec false (fun b r _=>cond (Nat.beq a b) (q r) (Nat.blt a b)) r) l
noncomputable def notO (o:Option Bool):Option Bool:=ob o fun b=>some (!b)
noncomputable def cmpI (a b:AV) (f:Int→Int→Bool):Option Bool:=ob (intV a) fun i=>ob (intV b) fun j=>some (f i j)
section
variable [OpqE]
noncomputable def eqV (H:Hp) (a b:AV):Option Bool:=ob (dV b) fun e=>alt (ob (dV a) fun d=>gb (le (depD d) 64&&le (depD e) 64) (deqO d e))
 (gb (optB (asLst e) List.isEmpty) (ob (locV a) fun n=>ob (lO H[n]?) fun l=>some l.isEmpty))
noncomputable def inL (a:AV) (l:List DV):Option Bool:=ob (dV a) fun d=>gb (le (depD d) 64&&le (depL l) 64) (anyEqO d l)
end
noncomputable def dictAt (B:List AO) (H:Hp) (b:AV):Option (List (List Nat×AV)):=alt (ob (rlocV b) fun n=>dO B[n]?) (ob (locV b) fun n=>dO H[n]?)
section
variable [OpqE]
noncomputable def inV (B:List AO) (H:Hp) (a b:AV):Option Bool:=alt (ob (dictAt B H b) fun es=>ob (strV a) fun s=>some (lookS es s).isSome) (alt (ob (tupV b) (inL a)) (ob (lstOf H b) fun l=>ob (allDat l) (inL a)))
noncomputable def cmpOpV (B:List AO) (op:CmpOp) (H:Hp) (a b:AV):Option Bool:=CmpOp.rec (eqV H a b) (notO (eqV H a b)) (cmpI a b fun i j=>decide (i < j)) (cmpI a b fun i j=>decide (i≤j)) (cmpI a b fun i j=>decide (j < i)) (cmpI a b fun i j=>decide (j≤i))
 (gb (noneV b) (some (noneV a))) (gb (noneV b) (some (!noneV a))) (inV B H a b) (notO (inV B H a b)) op
end
inductive Res where
 | val (v:AV)
 | newl (l:List AV)
noncomputable def smallI (i:Int):Bool:=Nat.blt i.natAbs 4611686018427387904
noncomputable def vI (i:Int):Option Res:=some (.val (.dat (.int i)))
noncomputable def int2 (a b:AV) (f:Int→Int→Option Res):Option Res:=ob (intV a) fun i=>ob (intV b) fun j=>f i j
noncomputable def sz2 {α:Type} (x y:List α) (r:Res):Option Res:=gb (le (x.length+y.length) 10000) (some r)
noncomputable def addV (H:Hp) (a b:AV):Option Res:=alt (int2 a b fun i j=>vI (i+j)) (alt (ob (strV a) fun s=>ob (strV b) fun t=>sz2 s t (.val (.dat (.str (s++t)))))
   (alt (ob (tupV a) fun s=>ob (tupV b) fun t=>sz2 s t (.val (.dat (.tup (s++t))))) (ob (lstOf H a) fun x=>ob (lstOf H b) fun y=>sz2 x y (.newl (x++y)))))
noncomputable def binV (op:Operator) (H:Hp) (a b:AV):Option Res:=Operator.rec (addV H a b) (int2 a b fun i j=>vI (i - j)) (int2 a b fun i j=>gb (smallI i||smallI j) (vI (i * j))) none none (int2 a b fun i j=>gb (decide (0 < j)) (vI (i % j)))
 (int2 a b fun i j=>gb (decide (i=10)&&decide (j=18)) (vI 1000000000000000000)) none none none none none (int2 a b fun i j=>gb (decide (0 < j)&&decide (j < 1073741824)) (vI (i / j))) op
noncomputable def intercal (sep:List Nat) (l:List (List Nat)):List Nat:=lrec [] (fun x r q=>List.rec x (fun _ _ _=>x++sep++q) r) l
noncomputable def strs? (l:List AV):Option (List (List Nat)):=lrec (some []) (fun a _ q=>ob (strV a) fun s=>ob q fun l=>some (s::l)) l
noncomputable def splitM (c:Nat) (x:List Nat):List (List Nat):=(Txt.split ⟨x.toArray⟩ ⟨#[c]⟩).map fun p=>p.cps.toList
noncomputable def subV (B:List AO) (H:Hp) (o i:AV):Option AV:=alt (ob (intV i) fun k=>ob (seqOf H o) fun l=>nthI l k) (ob (strV i) fun s=>ob (dictAt B H o) fun es=>lookS es s)
noncomputable def isI (k:Int) (a:AV):Bool:=optB (intV a) fun i=>decide (i=k)
noncomputable def slcV (H:Hp) (o:AV) (l u s:Option AV):Option (List AV):=gb (!l.isSome&&optB s (isI (-1))) (ob (lstOf H o) fun x=>gb (le x.length 10000) (Option.rec (some x.reverse) (fun u=>gb (isI 0 u) (some x.tail.reverse)) u))
noncomputable def lenB (n:Nat):Option Int:=gb (le n 1000000) (some n)
noncomputable def lenV (H:Hp) (a:AV):Option Int:=alt (ob (seqOf H a) fun l=>lenB l.length) (ob (locV a) fun n=>ob (dO H[n]?) fun l=>lenB l.length)
noncomputable def putRes (located:Bool) (r:Res) (H:Hp):Option (AV×Hp):=Res.rec (fun v=>gb (!located) (some (v,H))) (fun l=>cond located (some (.loc H.length,H++[.list l])) (ob (allDat l) fun ds=>some (.dat (.lst ds),H))) r
noncomputable def insKey (k:List Nat) (x:DV) (l:List (List Nat×DV)):List (List Nat×DV):=lrec [(k,x)] (fun y r q=>cond (strLt k y.1) ((k,x)::y::r) (y::q)) l
structure Ops where
 ev:Fm→MX→Hp→Option (AV×Hp)
 cd:Fm→MX→Hp→Option (Bool×Hp)
 ex:Fm→MS→Hp→Option (Fl×Fm×Hp)
 call:Nat→AV→List AV→Hp→Option (AV×Hp)
noncomputable def evs (ev:Fm→MX→Hp→Option (AV×Hp)) (fm:Fm) (xs:List MX):Hp→Option (List AV×Hp):=lrec (fun H=>some ([],H)) (fun x _ q H=>ob2 (ev fm x H) fun v H=>ob2 (q H) fun vs H=>some (v::vs,H)) xs
noncomputable def exs (ex:Fm→MS→Hp→Option (Fl×Fm×Hp)) (fm:Fm) (ss:List MS):Hp→Option (Fl×Fm×Hp):=lrec (fun fm H=>some (.next,fm,H)) (fun s _ q fm H=>ob3 (ex fm s H) fun f fm H=>flr f (q fm H) fun v=>some (.ret v,fm,H)) ss fm
inductive VK where
 | lo | ce | gl
noncomputable def vkOf (k:NameKind):Option VK:=NameKind.rec (some .lo) (some .ce) (some .ce) none (some .gl) k
noncomputable def kindOfI (sc:Sc) (i:Nat):Option VK:=ob (lookN sc i) vkOf
noncomputable def isGl (sc:Sc) (i:Nat):Bool:=optB (kindOfI sc i) fun k=>VK.rec false false true k
noncomputable def stores (sc:Sc) (i:Nat):Bool:=optB (lookN sc i) fun k=>NameKind.rec true true false false false k
noncomputable def frm0 (x:MX):Nat:=MX.casesOn x (fun _ _=>0) (fun _ _=>1) (fun _ _=>2) (fun _ _ _=>3) (fun _ _ _ _=>4) (fun _ _=>5) (fun _ _=>6) (fun _ _ _ _=>7) (fun _ _ _=>8) (fun _ _=>9) (fun _ _ _=>10) (fun _ _ _ _=>11) (fun _ _ _=>12) (fun _ _ _ _ _ _=>13) (fun _ _ _ _ _=>14) (fun _ _ _=>15) (fun _ _ _=>16) (fun _ _ _ _ _ _=>17) (fun _ _ _ _=>18) (fun _ _ _=>19) (fun _=>20)
noncomputable def frm (x:MX):Nat:=MX.casesOn x (fun _ _=>0) (fun _ _=>1) (fun _ _=>2) (fun _ _ _=>3) (fun _ _ _ _=>4) (fun _ _=>5) (fun _ _=>6) (fun _ _ _ _=>7) (fun _ _ _=>8) (fun _ _=>9) (fun _ _ _=>10) (fun _ _ _ _=>11) (fun _ _ _=>12) (fun _ _ _ _ _ _=>13) (fun _ _ _ _ _=>14) (fun _ _ _=>15) (fun _ _ _=>16) (fun _ _ _ _ _ _=>17) (fun _ _ _ _=>18) (fun _ _ _=>19) (fun x=>frm0 x+21)
noncomputable def rdX {β:Type} (var glob:Nat→Option β) (call:MX→List MX→Option β) (tup:List MX→Option β) (attr:MX→Nat→Option β) (sub:MX→MX→Option β) (gen:MX→MX→List MX→Option β) (x:MX):Option β :=
 MX.casesOn x (fun i _=>var i) (fun i _=>glob i) (fun _ _=>none) (fun _ _ _=>none) (fun _ _ _ _=>none) (fun _ _=>none) (fun _ _=>none) (fun _ _ _ _=>none) (fun l _ _=>tup l) (fun _ _=>none) (fun _ _ _=>none) (fun _ _ _ _=>none) (fun f xs _=>call f xs) (fun _ _ _ _ _ _=>none) (fun _ _ _ _ _=>none) (fun x n _=>attr x n) (fun x i _=>sub x i) (fun _ _ _ _ _ _=>none) (fun _ _ _ _=>none) gen (fun _=>none)
noncomputable def asVar:MX→Option Nat:=rdX some no no2 no no2 no2 no3
noncomputable def asMTup:MX→Option (List MX):=rdX no no no2 some no2 no2 no3
noncomputable def asGlob:MX→Option Nat:=rdX no some no2 no no2 no2 no3
noncomputable def asCall:MX→Option (MX×List MX):=rdX no no (fun f xs=>some (f,xs)) no no2 no2 no3
noncomputable def asAttr:MX→Option (MX×Nat):=rdX no no no2 no (fun x n=>some (x,n)) no2 no3
noncomputable def asSub:MX→Option (MX×MX):=rdX no no no2 no no2 (fun x i=>some (x,i)) no3
noncomputable def asGen:MX→Option (MX×MX×List MX):=rdX no no no2 no no2 no2 fun t it ifs=>some (t,it,ifs)
noncomputable def asgNames (sc:Sc) (ts:List MX):List AV→List (Nat×AV)→Option (List (Nat×AV)):=lrec (fun l vs=>gb l.isEmpty (some vs))
 (fun t _ q l vs=>List.rec none (fun x xs _=>ob (asVar t) fun i=>gb (stores sc i) (q xs (putN vs i x))) l) ts
noncomputable def asgT (fm:Fm) (t:MX) (v:AV):Option Fm:=alt (ob (asVar t) fun i=>gb (stores fm.sc i) (some {fm with vars:=putN fm.vars i v}))
 (ob (asMTup t) fun ts=>ob (tupI v) fun l=>ob (asgNames fm.sc ts l fm.vars) fun vs=>some {fm with vars:=vs})
noncomputable def upFrom (a:Int) (n:Nat):List AV:=Nat.rec (motive:=fun _=>Int→List AV) (fun _=>[]) (fun _ q a=>.dat (.int a)::q (a+1)) n a
noncomputable def rangeL (a b:Int):List AV:=upFrom a (b - a).toNat
noncomputable def cds (cd:Fm→MX→Hp→Option (Bool×Hp)) (fm:Fm) (xs:List MX):Hp→Option (Bool×Hp):=lrec (fun H=>some (true,H)) (fun x _ q H=>ob2 (cd fm x H) fun b H=>cond b (q H) (some (false,H))) xs
noncomputable def newV (fm:Fm) (t:MX):Bool:=optB (asVar t) fun i=>!(lookN fm.vars i).isSome
noncomputable def newT (fm:Fm) (t:MX):Bool:=newV fm t||optB (asMTup t) fun ts=>ts.all (newV fm)
noncomputable def distN (l:List Nat):Bool:=lrec true (fun i r q=>!memN r i&&q) l
noncomputable def isFree (k:NameKind):Bool:=NameKind.rec false false true false false k
noncomputable def freeOK (sc0:Sc) (sc:Sc):Bool:=sc.all fun p=>!isFree p.2||optB (kindOfI sc0 p.1) fun k=>VK.rec false true false k
noncomputable def compIt (cd:Fm→MX→Hp→Option (Bool×Hp)) (rest:Fm→Hp→Option (List AV×Hp)) (t:MX) (ifs:List MX) (fm:Fm) (vs:List AV):Hp→Option (List AV×Hp):=lrec (fun H=>some ([],H))
 (fun v _ q H=>gb (newT fm t) (ob (asgT fm t v) fun fm1=>ob2 (cds cd fm1 ifs H) fun b H=>cond b (ob2 (rest fm1 H) fun xs H=>ob2 (q H) fun ys H=>some (xs++ys,H)) (q H))) vs
noncomputable def forIt (exb:Fm→Hp→Option (Fl×Fm×Hp)) (t:MX) (vs:List AV):Fm→Hp→Option (Fl×Fm×Hp):=lrec (fun fm H=>some (.next,fm,H))
 (fun v _ q fm H=>ob (asgT fm t v) fun fm=>ob3 (exb fm H) fun f fm H=>flr f (q fm H) fun r=>some (.ret r,fm,H)) vs
noncomputable def whlIt (cd:Fm→Hp→Option (Bool×Hp)) (exb:Fm→Hp→Option (Fl×Fm×Hp)) (n:Nat):Fm→Hp→Option (Fl×Fm×Hp):=Nat.rec (fun _ _=>none)
 (fun _ q fm H=>ob2 (cd fm H) fun b H=>cond b (ob3 (exb fm H) fun f fm H=>flr f (q fm H) fun v=>some (.ret v,fm,H)) (some (.next,fm,H))) n
noncomputable def notComp (x:MX):Bool:=!memN [18,39,41] (frm x)
noncomputable def pairUp (f:AV→AV→AV) (l:List AV):List AV→List AV:=lrec (fun _=>[]) (fun a _ q r=>List.rec [] (fun b r _=>f a b::q r) r) l
noncomputable def pair2 (a b:AV):AV:=mkTup [a,b]
structure ItN where
 range:Nat
 zip:Nat
 enum:Nat
noncomputable def inR (b:Int):Bool:=decide (-1000000 < b)&&decide (b < 1000000)
noncomputable def froz (v:AV):Option (List AV):=alt (ob (lstV v) fun l=>some (datL l)) (tupI v)
noncomputable def rangeI (vs:List AV):Option (List AV):=alt (ob (v1 vs) fun b=>ob (intV b) fun b=>gb (inR b) (some (rangeL 0 b))) (ob (v2 vs) fun p=>ob (intV p.1) fun a=>ob (intV p.2) fun b=>gb (inR a&&inR b) (some (rangeL a b)))
noncomputable def zipI (vs:List AV):Option (List AV):=ob (v2 vs) fun p=>alt (ob (lstV p.1) fun x=>ob (lstV p.2) fun y=>some (pairUp pair2 (datL x) (datL y)))
 (ob (tupV p.2) fun _=>gb (optB (tupV p.1) List.isEmpty||optB (lstV p.1) List.isEmpty) (some []))
noncomputable def enumI (vs:List AV):Option (List AV):=ob (v1 vs) fun a=>ob (lstV a) fun x=>some (pairUp pair2 (rangeL 0 x.length) (datL x))
section
variable (I:ItN) (C:Cfg) (o:Ops)
noncomputable def itOf (sc:Sc) (g:Nat):Option (Bool×(List AV→Option (List AV))):=gb (isGl sc g) (cond (Nat.beq g I.range) (some (false,rangeI)) (cond (Nat.beq g I.zip) (some (true,zipI)) (cond (Nat.beq g I.enum) (some (true,enumI)) none)))
noncomputable def items (fm:Fm) (t it:MX) (H:Hp):Option (List AV×Hp) :=
 Option.rec (ob2 (o.ev fm it H) fun v H=>ob (froz v) fun x=>some (x,H)) (fun p=>gb (cond p.2.1 (asMTup t).isSome true) (ob2 (evs o.ev fm p.1 H) fun vs H=>ob (p.2.2 vs) fun x=>some (x,H)))
  (ob (asCall it) fun p=>ob (asGlob p.1) fun g=>ob (itOf I fm.sc g) fun q=>some (p.2,q))
noncomputable def isFreeI (sc:Sc) (i:Nat):Bool:=optB (lookN sc i) isFree
noncomputable def freeVars (sc:Sc) (l:List (Nat×AV)):List (Nat×AV):=l.filter fun p=>isFreeI sc p.1
noncomputable def compGens (elt:MX) (gens:List MX):Fm→Hp→Option (List AV×Hp):=lrec (fun fm H=>ob2 (o.ev fm elt H) fun v H=>some ([v],H))
 (fun g _ q fm H=>ob3 (asGen g) fun t it ifs=>ob2 (items I o fm t it H) fun vs H=>compIt o.cd q t ifs fm vs H) gens
noncomputable def compV (fm:Fm) (elt:MX) (gens:List MX) (sc:Sc) (H:Hp):Option (List AV×Hp):=List.rec none (fun g gs _=>ob3 (asGen g) fun t it ifs=>gb (distN (sc.map (·.1))&&freeOK fm.sc sc) (ob2 (items I o fm t it H) fun vs H =>
 ob2 (compIt o.cd (compGens I o elt gs) t ifs {sc:=sc,vars:=freeVars sc fm.vars,dep:=fm.dep} vs H) fun out H=>gb (le out.length 1000000) (some (out,H)))) gens
noncomputable def optEv (fm:Fm) (x:Option MX) (H:Hp):Option (Option AV×Hp):=Option.rec (some (none,H)) (fun x=>ob2 (o.ev fm x H) fun v H=>some (some v,H)) x
noncomputable def constV (c:MC):DV:=match c with
 | .none=>.none | .bool b=>.bool b | .int i=>.int i | .str s=>.str (C.cd s)
noncomputable def keyed (f:AV) (dep:Nat) (ds:List DV) (H:Hp):Option (List (List Nat×DV)×Hp):=ob (v2 ds) fun p=>ob2 (o.call dep f [.dat p.1] H) fun s H=>ob (strV s) fun s=>ob2 (o.call dep f [.dat p.2] H) fun t H=>ob (strV t) fun t=>some ([(s,p.1),(t,p.2)],H)
noncomputable def vD (d:DV):Option Res:=some (.val (.dat d))
noncomputable def primV (k:PK) (vs:List AV) (H:Hp):Option Res:=match k with
 | .len=>ob (v1 vs) fun a=>ob (lenV H a) vI
 | .abs=>ob (v1 vs) fun a=>ob (intV a) fun i=>vI i.natAbs
 | .max=>ob (v2 vs) fun p=>int2 p.1 p.2 fun i j=>vI (if j > i then j else i)
 | .int=>ob (v1 vs) fun a=>ob (dV a) fun d=>ob (asNum d) vI
 | .tuple=>ob (v1 vs) fun a=>alt (ob (tupV a) fun l=>vD (.tup l)) (ob (lstOf H a) fun l=>ob (allDat l) fun l=>gb (le l.length 10000) (vD (.tup l)))
 | .list=>ob (v1 vs) fun a=>ob (seqOf H a) fun l=>gb (le l.length 10000) (some (.newl l))
 | .sorted=>ob (v1 vs) fun a=>alt (ob (lstV a) fun l=>ob (v2 l) fun p=>ob (asStr p.1) fun s=>ob (asStr p.2) fun t=>some (.newl (cond (strLt t s) [.dat (.str t),.dat (.str s)] [.dat (.str s),.dat (.str t)])))
   (ob (locV a) fun n=>ob (dO H[n]?) fun l=>gb l.isEmpty (some (.newl [])))
 | .dict=>none
noncomputable def pairsD (l:List DV):List (List Nat×AV)→Option (List (List Nat×AV)):=lrec some (fun d _ q es=>ob (asTup d) fun l=>ob (v2 l) fun p=>ob (asStr p.1) fun s=>q (putS es s (.dat p.2))) l
noncomputable def dictV (vs:List AV) (H:Hp):Option (List (List Nat×AV)):=ob (v1 vs) fun a=>alt (ob (lstV a) fun l=>gb (le l.length 10000) (pairsD l [])) (ob (locV a) fun n=>ob (dO H[n]?) fun l=>gb l.isEmpty (some []))
noncomputable def newDict (es:List (List Nat×AV)) (H:Hp):AV×Hp:=(.loc H.length,H++[.dict es])
noncomputable def isGlob (x:MX):Bool:=(asGlob x).isSome
noncomputable def isDict:PK→Bool
 | .dict=>true
 | _=>false
noncomputable def resV (p:AV×Hp):Option (Res×Hp):=some (.val p.1,p.2)
noncomputable def evRes (fm:Fm) (x:MX) (H:Hp):Option (Res×Hp):=MX.casesOn x
 (fun _ _=>none)
 (fun _ _=>none)
 (fun _ _=>none)
 (fun _ _ _=>none)
 (fun op l r _=>ob2 (o.ev fm l H) fun a H=>ob2 (o.ev fm r H) fun b H=>ob (binV op H a b) fun r=>some (r,H))
 (fun _ _=>none)
 (fun _ _=>none)
 (fun _ _ _ _=>none)
 (fun _ _ _=>none)
 (fun xs _=>ob2 (evs o.ev fm xs H) fun vs H=>gb (le vs.length 10000) (some (.newl vs,H)))
 (fun _ _ _=>none)
 (fun _ _ _ _=>none)
 (fun f xs _=>gb (isGlob f) (ob2 (o.ev fm f H) fun f H=>ob2 (evs o.ev fm xs H) fun vs H=>Option.rec (ob (o.call fm.dep f vs H) resV)
   (fun k=>cond (isDict k) (ob (dictV vs H) fun es=>resV (newDict es H)) (ob (primV k vs H) fun r=>some (r,H))) (prV f)))
 (fun f xs kn kv _ _=>gb (isGlob f&&listBeq (C.cd kn) [107,101,121]) (ob2 (o.ev fm f H) fun f H=>ob (prV f) fun k=>gb (PK.rec false false false true false false false false k) (ob2 (evs o.ev fm xs H) fun vs H=>ob (v1 vs) fun a =>
   ob2 (o.ev fm kv H) fun g H=>ob (lstOf H a) fun l=>ob (allDat l) fun ds=>Nat.rec none (fun dep _=>ob2 (keyed o g dep ds H) fun ks H =>
    some (.newl ((ks.foldl (fun acc x=>insKey x.1 x.2 acc) []).map fun x=>.dat x.2),H)) fm.dep)))
 (fun _ _ _ _ _=>none)
 (fun _ _ _=>none)
 (fun _ _ _=>none)
 (fun x l u s _ _=>ob2 (o.ev fm x H) fun a H=>ob2 (optEv o fm l H) fun l H=>ob2 (optEv o fm u H) fun u H=>ob2 (optEv o fm s H) fun s H=>ob (slcV H a l u s) fun r=>some (.newl r,H))
 (fun elt gens sc _=>ob2 (compV I o fm elt gens sc H) fun vs H=>some (.newl vs,H))
 (fun _ _ _=>none)
 (fun _=>none)
noncomputable def evMaker (fm:Fm) (located:Bool) (x:MX) (H:Hp):Option (AV×Hp):=ob2 (evRes I C o fm x H) (putRes located)
noncomputable def bopV (fm:Fm) (isAnd:Bool) (xs:List MX):Hp→Option (AV×Hp):=lrec (fun _=>none) (fun x r q H=>List.rec (o.ev fm x H) (fun _ _ _=>ob2 (o.ev fm x H) fun v H=>ob (boolV v) fun b=>cond (b==isAnd) (q H) (some (.dat (.bool b),H))) r) xs
noncomputable def bopC (fm:Fm) (isAnd:Bool) (xs:List MX):Hp→Option (Bool×Hp):=lrec (fun H=>some (isAnd,H)) (fun x _ q H=>ob2 (o.cd fm x H) fun b H=>cond (b==isAnd) (q H) (some (b,H))) xs
noncomputable def appL (H:Hp) (n:Nat) (l r:List AV):Option (AV×Hp):=gb (le (l.length+r.length) 10000) (some (.dat .none,H.set n (.list (l++r))))
noncomputable def wApp:List Nat:=[97,112,112,101,110,100]
noncomputable def wPop:List Nat:=[112,111,112]
noncomputable def wExt:List Nat:=[101,120,116,101,110,100]
noncomputable def wJoin:List Nat:=[106,111,105,110]
noncomputable def wSplit:List Nat:=[115,112,108,105,116]
noncomputable def methL (w:List Nat) (n:Nat) (l:List AV) (vs:List AV) (H:Hp):Option (AV×Hp) :=
 cond (listBeq w wApp) (ob (v1 vs) fun v=>appL H n l [v])
 (cond (listBeq w wPop) (gb vs.isEmpty (gb (le l.length 10000) (ob l.getLast? fun v=>some (v,H.set n (.list l.dropLast)))))
 (gb (listBeq w wExt) (ob (v1 vs) fun v=>ob (lstV v) fun r=>appL H n l (datL r))))
noncomputable def methT (w:List Nat) (s:List Nat) (vs:List AV) (H:Hp):Option (AV×Hp):=ob (v1 vs) fun b =>
 cond (listBeq w wJoin) (ob (seqOf H b) fun l=>ob (strs? l) fun ss=>gb (le (intercal s ss).length 10000&&le s.length 100) (some (.dat (.str (intercal s ss)),H)))
 (gb (listBeq w wSplit) (ob (strV b) fun t=>ob (v1 t) fun c=>gb (le s.length 10000) (some (.dat (.lst ((splitM c s).map .str)),H))))
noncomputable def methV (w:List Nat) (a:AV) (vs:List AV) (H:Hp):Option (AV×Hp):=alt (ob (strV a) fun s=>methT w s vs H) (ob (locV a) fun n=>ob (lO H[n]?) fun l=>methL w n l vs H)
noncomputable def objV (C:Cfg) (H:Hp) (a:AV):Option (Nat×List (Nat×AV)):=alt (ob2 (instV a) fun c n=>ob (nO H[n]?) fun fs=>some (c,fs)) (ob2 (rinstV a) fun c n=>ob (nO C.base[n]?) fun fs=>some (c,fs))
noncomputable def okBase (H:Hp) (a:AV):Bool:=(strV a).isSome||optB (locV a) fun n=>(lO H[n]?).isSome
noncomputable def hasAttr (C:Cfg) (c nm:Nat):Bool:=optB (C.cl c) fun ci=>memN ci.attrs nm
noncomputable def noCall0 (x:MX):Bool:=!memN [12,13] (frm x)&&Nat.ble (frm x) 20
noncomputable def dctV (fm:Fm) (ks:List MX):List MX→List (List Nat×AV)→Hp→Option (List (List Nat×AV)×Hp):=lrec (fun vs es H=>gb vs.isEmpty (some (es,H)))
 (fun k _ q vs es H=>List.rec none (fun v vs _=>ob2 (o.ev fm k H) fun k H=>ob (strV k) fun s=>ob2 (o.ev fm v H) fun a H=>q vs (putS es s a) H) vs) ks
noncomputable def evStep [OpqE] (fm:Fm) (x:MX) (H:Hp):Option (AV×Hp):=MX.casesOn x
 (fun i _=>ob (kindOfI fm.sc i) fun k=>ob (lookN fm.vars i) fun v=>VK.rec (some (v,H)) (some (v,H)) none k)
 (fun i _=>gb (isGl fm.sc i) (ob (C.gl i) fun v=>some (v,H)))
 (fun c _=>some (.dat (constV C c),H))
 (fun a xs _=>bopV o fm a xs H)
 (fun a0 a1 a2 a3=>evMaker I C o fm false (.bin a0 a1 a2 a3) H)
 (fun x _=>ob2 (o.ev fm x H) fun v H=>ob (boolV v) fun b=>some (.dat (.bool (!b)),H))
 (fun x _=>ob2 (o.ev fm x H) fun v H=>ob (intV v) fun i=>some (.dat (.int (-i)),H))
 (fun t b e _=>ob2 (o.cd fm t H) fun t H=>cond t (o.ev fm b H) (o.ev fm e H))
 (fun xs _ _=>ob2 (evs o.ev fm xs H) fun vs H=>gb (le vs.length 10000) (some (mkTup vs,H)))
 (fun a0 a1=>evMaker I C o fm false (.lst a0 a1) H)
 (fun ks vs _=>gb (le ks.length 15) (ob2 (dctV o fm ks vs [] H) fun es H=>some (newDict es H)))
 (fun op l r _=>ob2 (o.ev fm l H) fun a H=>ob2 (o.ev fm r H) fun b H=>ob (cmpOpV C.base op H a b) fun c=>some (.dat (.bool c),H))
 (fun a0 a1 a2=>evMaker I C o fm false (.call a0 a1 a2) H)
 (fun a0 a1 a2 a3 a4 a5=>evMaker I C o fm false (.callk a0 a1 a2 a3 a4 a5) H)
 (fun x nm xs ap p=>gb (Nat.beq (ap / 1000 % 1000) (p / 1000000000)&&le xs.length 20&&noCall0 x) (ob2 (o.ev fm x H) fun a H=>ob2 (evs o.ev fm xs H) fun vs H2=>Option.rec (gb (okBase H a) (methV (C.cd nm) a vs H2))
   (fun p=>ob (C.cl p.1) fun ci=>ob (lookN ci.meths nm) fun f=>gb (!(lookN p.2 nm).isSome) (o.call fm.dep (.fn f) (a::vs) H2)) (objV C H a)))
 (fun x nm _=>gb (noCall0 x) (ob2 (o.ev fm x H) fun a H=>ob2 (objV C H a) fun c fs=>gb (hasAttr C c nm) (ob (lookN fs nm) fun v=>some (v,H))))
 (fun x i _=>ob2 (o.ev fm x H) fun a H=>ob2 (o.ev fm i H) fun k H=>ob (subV C.base H a k) fun v=>some (v,H))
 (fun a0 a1 a2 a3 a4 a5=>evMaker I C o fm false (.slc a0 a1 a2 a3 a4 a5) H)
 (fun a0 a1 a2 a3=>evMaker I C o fm false (.comp a0 a1 a2 a3) H)
 (fun _ _ _=>none)
 (fun x=>evMaker I C o fm true x H)
noncomputable def cdStep [OpqE] (fm:Fm) (x:MX) (H:Hp):Option (Bool×Hp):=MX.casesOn x
 (fun a0 a1=>ob2 (o.ev fm (.var a0 a1) H) fun v H=>ob (boolV v) fun b=>some (b,H))
 (fun a0 a1=>ob2 (o.ev fm (.glob a0 a1) H) fun v H=>ob (boolV v) fun b=>some (b,H))
 (fun a0 a1=>ob2 (o.ev fm (.const a0 a1) H) fun v H=>ob (boolV v) fun b=>some (b,H))
 (fun a xs _=>bopC o fm a xs H)
 (fun a0 a1 a2 a3=>ob2 (o.ev fm (.bin a0 a1 a2 a3) H) fun v H=>ob (boolV v) fun b=>some (b,H))
 (fun x _=>ob2 (o.cd fm x H) fun b H=>some (!b,H))
 (fun a0 a1=>ob2 (o.ev fm (.neg a0 a1) H) fun v H=>ob (boolV v) fun b=>some (b,H))
 (fun t b e _=>ob2 (o.cd fm t H) fun t H=>cond t (o.cd fm b H) (o.cd fm e H))
 (fun a0 a1 a2=>ob2 (o.ev fm (.tup a0 a1 a2) H) fun v H=>ob (boolV v) fun b=>some (b,H))
 (fun a0 a1=>ob2 (o.ev fm (.lst a0 a1) H) fun v H=>ob (boolV v) fun b=>some (b,H))
 (fun a0 a1 a2=>ob2 (o.ev fm (.dct a0 a1 a2) H) fun v H=>ob (boolV v) fun b=>some (b,H))
 (fun op l r _=>ob2 (o.ev fm l H) fun a H=>ob2 (o.ev fm r H) fun b H=>ob (cmpOpV C.base op H a b) fun c=>some (c,H))
 (fun a0 a1 a2=>ob2 (o.ev fm (.call a0 a1 a2) H) fun v H=>ob (boolV v) fun b=>some (b,H))
 (fun a0 a1 a2 a3 a4 a5=>ob2 (o.ev fm (.callk a0 a1 a2 a3 a4 a5) H) fun v H=>ob (boolV v) fun b=>some (b,H))
 (fun a0 a1 a2 a3 a4=>ob2 (o.ev fm (.meth a0 a1 a2 a3 a4) H) fun v H=>ob (boolV v) fun b=>some (b,H))
 (fun a0 a1 a2=>ob2 (o.ev fm (.attr a0 a1 a2) H) fun v H=>ob (boolV v) fun b=>some (b,H))
 (fun a0 a1 a2=>ob2 (o.ev fm (.sub a0 a1 a2) H) fun v H=>ob (boolV v) fun b=>some (b,H))
 (fun a0 a1 a2 a3 a4 a5=>ob2 (o.ev fm (.slc a0 a1 a2 a3 a4 a5) H) fun v H=>ob (boolV v) fun b=>some (b,H))
 (fun a0 a1 a2 a3=>ob2 (o.ev fm (.comp a0 a1 a2 a3) H) fun v H=>ob (boolV v) fun b=>some (b,H))
 (fun _ _ _=>none)
 (fun _=>none)
noncomputable def nonC0 (x:MX):Bool:=memN [0,1,12,14,15,9,10,18,30,33,39] (frm x)
noncomputable def nonC (x:MX):Bool:=nonC0 x||optB (asSub x) fun p=>nonC0 p.1
noncomputable def isConst (x:MX):Bool:=Nat.beq (frm x) 2
noncomputable def foldC (x:MX):Bool:=isConst x||optB (asMTup x) fun xs=>xs.all isConst
noncomputable def varId (x:MX):Nat:=(asVar x).getD 0
noncomputable def isMk (x:MX):Bool:=Nat.ble 21 (frm x)
noncomputable def tupOK (t e:MX):Bool:=Option.rec true (fun ts=>distN (ts.map varId)&&(Option.rec (!isMk e) (fun vs=>vs.any nonC||vs.all foldC) (asMTup e))) (asMTup t)
noncomputable def setA (fm:Fm) (v:AV) (H:Hp) (a:AV) (nm:Nat):Option (Fl×Fm×Hp):=ob2 (instV a) fun c n=>gb (hasAttr C c nm) (ob (nO H[n]?) fun fs=>gb (le fs.length 100) (some (.next,fm,H.set n (.ns (putN fs nm v)))))
noncomputable def natV (a:AV):Option Nat:=ob (intV a) fun i=>Int.rec some (fun _=>none) i
noncomputable def setI (fm:Fm) (v:AV) (H:Hp) (a k:AV):Option (Fl×Fm×Hp):=ob (locV a) fun n=>alt (ob (natV k) fun j=>ob (lO H[n]?) fun l=>gb (Nat.blt j l.length&&le l.length 10000) (some (.next,fm,H.set n (.list (l.set j v)))))
 (ob (strV k) fun s=>ob (dO H[n]?) fun es=>gb (le es.length 1000) (some (.next,fm,H.set n (.dict (putS es s v)))))
noncomputable def exStep (fm:Fm) (st:MS) (H:Hp):Option (Fl×Fm×Hp):=match st with
 | .asg t e _=>ob2 (o.ev fm e H) fun v H=>Option.rec (Option.rec (gb (tupOK t e) (ob (asgT fm t v) fun fm=>some (.next,fm,H)))
   (fun p=>ob2 (o.ev fm p.1 H) fun a H=>ob2 (o.ev fm p.2 H) fun k H=>setI fm v H a k) (asSub t)) (fun p=>ob2 (o.ev fm p.1 H) fun a H=>setA C fm v H a p.2) (asAttr t)
 | .ifs c a b _=>ob2 (o.cd fm c H) fun t H=>exs o.ex fm (cond t a b) H
 | .fors t it body _=>ob2 (items I o fm t it H) fun vs H=>forIt (fun fm H=>exs o.ex fm body H) t vs fm H
 | .whl c body _=>whlIt (fun fm H=>o.cd fm c H) (fun fm H=>exs o.ex fm body H) 5000 fm H
 | .ret e _=>ob2 (o.ev fm e H) fun v H=>some (.ret v,fm,H)
 | .exp e _=>gb (notComp e) (ob2 (o.ev fm e H) fun _ H=>some (.next,fm,H))
 | .rais _ _=>none
 | .pass _=>some (.next,fm,H)
noncomputable def dropTo (ds:List DV) (n:Nat):List DV:=cond (le n ds.length) (ds.drop (ds.length - n)) []
noncomputable def bindP (ps:List Nat):List DV→List AV→Option (List (Nat×AV)):=lrec (fun _ vs=>gb vs.isEmpty (some []))
 (fun p r q ds vs=>List.rec (List.rec none (fun d ds _=>ob (q ds []) fun r=>some ((p,.dat d)::r)) (dropTo ds (r.length+1))) (fun v vs _=>ob (q ds vs) fun r=>some ((p,v)::r)) vs) ps
noncomputable def closedV:AV→Bool:=AV.rec (motive_2:=fun _=>Bool) (fun _=>true) (fun _=>false) (fun _ _=>false) (fun _=>true) (fun _ _=>true) (fun _=>true) (fun _=>true) (fun _=>true) (fun _ q=>q) true true fun _ _ a b=>cond a b false
noncomputable def closedL (l:List AV):Bool:=l.all closedV
noncomputable def frozen (v:AV) (H:Hp):Option AV:=alt (gb (closedV v) (some v)) (ob (locV v) fun n=>ob (lO H[n]?) fun l=>ob (allDat l) fun ds=>some (.dat (.lst ds)))
noncomputable def retV (f:Fl):AV:=flr f (.dat .none) id
noncomputable def runB (fi:FnI) (bs:List (Nat×AV)) (dep:Nat) (H:Hp):Option (AV×Hp):=ob3 (exs o.ex {sc:=fi.sc,vars:=bs,dep:=dep} fi.body H) fun f _ H=>some (retV f,H)
noncomputable def callFn (dep k:Nat) (vs:List AV) (H:Hp):Option (AV×Hp):=Option.rec
 (ob (C.fn k) fun fi=>ob (bindP fi.ps fi.dfl vs) fun bs=>cond fi.iso (gb (closedL vs) (ob2 (runB o fi bs dep []) fun v H1=>ob (frozen v H1) fun v=>some (v,H))) (runB o fi bs dep H))
 (fun p=>gb (le p.1 dep) (p.2 vs H)) (C.con k)
noncomputable def callStep (dep:Nat) (f:AV) (vs:List AV) (H:Hp):Option (AV×Hp):=Nat.rec none (fun dep _=>alt (ob (fnV f) fun k=>callFn C o dep k vs H)
 (ob (clV f) fun c=>ob (C.cl c) fun ci=>ob2 (o.call dep (.fn ci.init) (.inst c H.length::vs) (H++[.ns []])) fun r H1=>gb (noneV r) (some (.inst c H.length,H1)))) dep
noncomputable def opsStep [OpqE]:Ops:={ev:=evStep I C o,cd:=cdStep C o,ex:=exStep I C o,call:=callStep C o}
end
@[irreducible] noncomputable def ops [OpqE] (I:ItN) (C:Cfg) (n:Nat):Ops:=Nat.rec ⟨fun _ _ _=>none,fun _ _ _=>none,fun _ _ _=>none,fun _ _ _ _=>none⟩ (fun _ o=>opsStep I C o) n
section
variable [OpqE] {I:ItN} {C:Cfg} {n:Nat} {fm:Fm} {H:Hp}
theorem ops_s:ops I C (n+1)=opsStep I C (ops I C n):=by unfold ops;rfl
theorem ops_ev {x:MX} {r:Option (AV×Hp)} (h:evStep I C (ops I C n) fm x H=r):(ops I C (n+1)).ev fm x H=r:=by rw [ops_s];exact h
theorem ops_cd {x:MX} {r:Option (Bool×Hp)} (h:cdStep C (ops I C n) fm x H=r):(ops I C (n+1)).cd fm x H=r:=by rw [ops_s];exact h
theorem ops_ex {x:MS} {r:Option (Fl×Fm×Hp)} (h:exStep I C (ops I C n) fm x H=r):(ops I C (n+1)).ex fm x H=r:=by rw [ops_s];exact h
theorem ops_call {d:Nat} {f:AV} {vs:List AV} {r:Option (AV×Hp)} (h:callStep C (ops I C n) d f vs H=r):(ops I C (n+1)).call d f vs H=r:=by rw [ops_s];exact h
end
end
section
open PySem
noncomputable def cdT:List (List Nat):=[[46,48],[110,97,109,101],[112,97,114,97,109,115],[116,117,112,108,101],[107,105,110,100,115],[114,101,115,116],[108,101,102,116],[102,111,117,110,100],[108,105,115,116],[104,101,114,101],[112,111,112],[117,110,105,111,110],[101,120,116,101,110,100],[66,79,84,84,79,77],[97,112,112,101,110,100],[65,78,89],[108,101,110],[115,111,114,116,101,100],[107,101,121],[107,105,110,100,95,116,101,120,116],[107,105,110,100],[119,111,114,100],[97,108,108],[116,121,112,101,111,102],[116,97,98,108,101],[118,97,114],[103,101,116],[105,110,110,101,114],[100,105,99,116],[98,111,117,110,100,115],[115,117,98,115,116,105,116,117,116,101,100],[112,97,114,116,115],[112,97,114,116,115,95,111,102,95,107,105,110,100],[114,101,98,117,105,108,116,95,107,105,110,100],[112,97,114,116],[98,111,117,110,100],[105,110,115,105,100,101],[44,32],[106,111,105,110],[112,97,114,97,109],[123],[125],[],[115,111,109,101],[111,110,101],[86,97,114,97,114,103,123],[84,117,112,108,101,123],[85,110,105,111,110,123],[32,119,104,101,114,101,32],[98,105,110,100,101,114,95,116,101,120,116],[84,121,112,101,123],[102,110],[116,121,112,101,111,102,40],[41],[110],[115,116,114],[85,110,105,111,110,123,125],[115,101,108,102],[114,111,119,115],[109,97,110,121],[83,105,100,101,115],[105,115,95,97,115,107,101,100],[108,111,119,101,114],[117,112,112,101,114],[98,111,100,121],[102,114,101,115,104],[115,112,108,105,116],[33],[108,111,119,101,114,115],[117,112,112,101,114,115],[83,105,100,101],[105,115,95,100,105,97,103,111,110,97,108],[115,105,100,101],[108,101,102,116,95,99,97,115,101,115],[99,97,115,101],[116,117,112,108,101,95,99,97,115,101,115],[77,79,83,84,95,67,65,83,69,83],[99,97,115,101,115],[114,111,119],[116,117,112,108,101,95,111,102],[105,115,95,101,109,112,116,121],[102,117,101,108],[103,111,97,108,115],[115,105,100,101,115],[119,97,105,116,105,110,103],[115,101,116,116,108,101,100],[119,97,121,115],[115,116,101,112],[119,97,121],[99,111,112,105,101,100],[97,114,101,95,99,111,110,99,114,101,116,101],[103,111,97,108],[111,116,104,101,114],[110,117,109,98,101,114,115],[115,97,109,101],[115,117,98],[98,101,108,111,119],[97,98,111,118,101],[98,121,95,102,111,114,109],[111,112,101,110,101,100],[99,104,111,115,101,110],[112,108,97,105,110],[119,111,114,100,115],[110,111,109,105,110,97,108],[116,117,112,108,101,95,119,97,121,115],[84,89,80,69],[70,85,78,67,84,73,79,78],[115,117,112,101,114,115],[122,105,112],[119,97,110,116,101,100],[105,115,95,111,110,101],[116,97,105,108],[116,97,105,108,95,111,102],[114,97,110,103,101],[97,116],[115,101,97,114,99,104],[83,101,97,114,99,104],[114,117,110],[105,115,95,115,117,98,116,121,112,101],[116,97,107,101,110],[102,114,101,101,95,118,97,114,115],[116,111,108,100],[116,117,114,110],[105,115,95,111,112,101,110],[109,101,101,116,95,98,121,95,119,111,114,100],[109,101,101,116,95,112,108,97,105,110],[109,101,101,116,95,117,110,105,111,110],[109,101,101,116,95,111,112,101,110,101,100],[109,101,101,116,95,118,97,114,105,97,98,108,101],[109,111,114,101],[109,101,101,116],[117,110,105,111,110,95,111,102],[109,101,101,116,95,116,117,112,108,101,115],[109,101,101,116,95,110,97,109,101,115],[109,101,101,116,95,112,97,114,97,109],[116,104,101,114,101],[111,116,104,101,114,115],[109,97,120],[114,105,103,104,116],[109,101,101,116,95,108,111,119,101,114],[109,101,101,116,105,110,103],[77,101,101,116,105,110,103],[110,97,109,101,115,95,119,105,116,104,105,110],[115,105,103],[98,105,110,100,101,114,115,95,109,97,110,121],[115,105,103,115],[115,112,111,116],[105,115,95,109,111,114,101,95,115,112,101,99,105,102,105,99],[104,101,108,100],[105,115,95,97,104,101,97,100,95,111,102,95,97,108,108],[116,104,105,114,100],[99,111,109,109,111,110],[102,105,114,115,116],[115,101,99,111,110,100],[115,97,109,101,95,107,105,110,100],[105,110,116,101,114,115,101,99,116,105,111,110],[105,115,95,115,101,116,116,108,101,100,95,98,121],[97,114,101,95,97,109,98,105,103,117,111,117,115],[97,115,107,101,100],[102,105,116,116,105,110,103],[98,101,115,116,95,111,102],[97,109,98,105,103,117,111,117,115,95,112,97,105,114,115],[32,97,110,100,32],[32,98,111,116,104,32,116,97,107,101,32,105,110,32],[10],[105,115,95,97,98,115,116,114,97,99,116],[105,115,95,109,117,116,97,98,108,101],[102,105,101,108,100,115],[115,117,112,101,114],[100,101,99,108,115],[65,110,121],[68,101,99,108],[100,101,99,108],[75,105,110,100,70,97,117,108,116],[97,32,107,105,110,100,32,105,115,32,116,111,108,100,32,116,119,105,99,101,58,32],[110,111,32,107,105,110,100,32,99,97,110,32,115,116,97,110,100,32,114,105,103,104,116,32,98,101,108,111,119,32],[111,119,110],[119,105,108,100],[97,32,118,97,114,105,97,98,108,101,32,116,104,97,116,32,110,111,116,104,105,110,103,32,98,105,110,100,115,44,32,111,114,32,97,32,102,105,101,108,100,32,116,119,105,99,101,58,32],[110,111,32,115,117,99,104,32,107,105,110,100,58,32],[116,97,98,108,101,95,102,111,114],[115,117,112,101,114,95,111,102],[100,101,99,108,97,114,101],[75,105,110,100,115],[84,121,112,101],[70,117,110,99,116,105,111,110],[78,117,109,98,101,114],[65,98,115,116,114,97,99,116,67,104,97,114],[65,98,115,116,114,97,99,116,83,116,114,105,110,103],[69,120,99,101,112,116,105,111,110],[82,101,97,108],[110,97,109,101,100],[73,110,116,101,103,101,114],[83,105,103,110,101,100],[85,110,115,105,103,110,101,100],[83,73,71,78,69,68],[85,78,83,73,71,78,69,68],[66,111,111,108],[67,104,97,114],[83,116,114,105,110,103],[83,121,109,98,111,108],[78,111,116,104,105,110,103],[69,120,112,114],[104,101,97,100],[97,114,103,115],[115,116,97,114,116,95,101,114,114,111,114,115],[115,116,97,114,116,95,114,111,119,115],[80,76,65,73,78,95,69,82,82,79,82,83],[84,69,88,84,95,69,82,82,79,82,83],[109,115,103],[67,65,76,76,95,69,82,82,79,82,83],[102],[85,110,100,101,102,86,97,114,69,114,114,111,114],[66,111,117,110,100,115,69,114,114,111,114],[97],[105],[97,110,121,116,104,105,110,103],[84,46,48],[78,46,48],[105,116,101,109],[114,97,110,107],[65,98,115,116,114,97,99,116,65,114,114,97,121],[65,114,114,97,121],[83,117,98,65,114,114,97,121],[65,98,115,116,114,97,99,116,82,97,110,103,101],[85,110,105,116,82,97,110,103,101],[115,116,97,114,116],[115,116,111,112],[83,116,101,112,82,97,110,103,101],[82,101,102],[120],[119,104,111,108,101],[82,97,116,105,111,110,97,108],[110,117,109],[100,101,110],[73,110,116,54,52],[85,73,110,116,56],[115,99,114,105,112,116],[99,101,108,108],[105,110,116],[104,101,97,112],[97,98,115],[115,105,108,111],[99,111,114,110],[95,108,97,119,95,117,112],[95,108,97,119,95,103,114,97,105,110],[95,108,97,119,95,99,104,97,105,110],[110,97,109,101,115],[95,108,97,119,95,107,105,110,100],[95,108,97,119,95,117,110,100,101,114],[95,108,97,119,95,98,111,116,104],[101,110,117,109,101,114,97,116,101],[95,108,97,119,95,97,104,101,97,100],[95,108,97,119,95,105,115,95,111,112,101,110],[100,117,101],[95,108,97,119,95,115,105,103],[95,108,97,119,95,112,97,105,114,115],[116,101,120,116],[97,109,98,105,103,117,105,116,121,95,116,101,120,116],[98,101,115,116],[97,115,107,101,100,95,107,105,110,100],[105,115,95,108,101,102,116,95,111,112,101,110],[115,116,97,114,116,95,107,105,110,100,115],[95,108,97,119,95,115,105,108,111],[95,108,97,119,95,114,111,119,115,95,114,105,103,104,116],[95,108,97,119,95,108,111,116],[95,108,97,119,95,97,115,107,101,100,95,114,105,103,104,116],[95,95,105,110,105,116,95,95],[98,111,116,116,111,109],[73,110,116,56],[73,110,116,49,54],[73,110,116,51,50],[66,105,103,73,110,116],[85,73,110,116,49,54],[85,73,110,116,51,50],[85,73,110,116,54,52],[68,105,118,105,100,101,69,114,114,111,114],[73,110,101,120,97,99,116,69,114,114,111,114],[84,121,112,101,69,114,114,111,114],[83,116,97,99,107,79,118,101,114,102,108,111,119,69,114,114,111,114],[65,114,103,117,109,101,110,116,69,114,114,111,114],[79,118,101,114,102,108,111,119,69,114,114,111,114],[68,105,109,101,110,115,105,111,110,77,105,115,109,97,116,99,104],[69,114,114,111,114,69,120,99,101,112,116,105,111,110],[77,101,116,104,111,100,69,114,114,111,114],[65,109,98,105,103,117,111,117,115,69,114,114,111,114],[108,97,119]]
noncomputable def cdX (i:Nat):List Nat:=match cdT[i]? with | some s=>s | none=>[1000000,i]
noncomputable def b_named:List MS:=[
  (.ret (.tup [(.const (.str 1) 8012008018),(.var 1 8020008024),(.call (.glob 3 8026008031) [(.var 2 8032008038)] 8026008039)] 0 8011008040) 8004008040)]
noncomputable def f_named:FnI:=⟨[1,2],[.tup []],[(1,.local),(2,.local),(3,.globalImplicit)],b_named,false⟩
noncomputable def b_tuple_of:List MS:=[
  (.ret (.tup [(.const (.str 3) 10012010019),(.call (.glob 3 10021010026) [(.var 4 10027010032)] 10021010033),(.var 5 10035010039)] 0 10011010040) 10004010040)]
noncomputable def f_tuple_of:FnI:=⟨[4,5],[.none],[(4,.local),(5,.local),(3,.globalImplicit)],b_tuple_of,false⟩
noncomputable def b_union_of:List MS:=[
  (.asg (.tup [(.var 6 12004012008),(.var 7 12010012015)] 0 12004012015) (.tup [(.mk (.slc (.call (.glob 8 12019012023) [(.var 4 12024012029)] 12019012030) none none (some (.neg (.const (.int 1) 12034012035) 12033012035)) 12031012035 12019012036)),(.mk (.lst [] 12038012040))] 0 12018012041) 12004012041),
  (.whl (.cmp .NotEq (.var 6 13010013014) (.lst [] 13018013020) 13010013020) [(.asg (.var 9 14008014012) (.meth (.var 6 14015014019) 10 [] 14015014023 14015014025) 14008014025),
  (.ifs (.cmp .Eq (.sub (.var 9 15011015015) (.const (.int 0) 15016015017) 15011015018) (.const (.str 11) 15022015029) 15011015029) [(.exp (.meth (.var 6 16012016016) 12 [(.slc (.sub (.var 9 16024016028) (.const (.int 1) 16029016030) 16024016031) none none (some (.neg (.const (.int 1) 16035016036) 16034016036)) 16032016036 16024016037)] 16012016023 16012016038) 16012016038)] [(.ifs (.bop true [(.cmp .NotEq (.var 9 17013017017) (.glob 13 17021017027) 17013017027),(.cmp .NotIn (.var 9 17032017036) (.var 7 17044017049) 17032017049)] 17013017049) [(.exp (.meth (.var 7 18012018017) 14 [(.var 9 18025018029)] 18012018024 18012018030) 18012018030)] [] 17008018030)] 15008018030)] 13004018030),
  (.ifs (.cmp .In (.glob 15 19007019010) (.var 7 19014019019) 19007019019) [(.ret (.glob 15 20015020018) 20008020018)] [] 19004020018),
  (.ifs (.cmp .Eq (.var 7 21007021012) (.lst [] 21016021018) 21007021018) [(.ret (.glob 13 22015022021) 22008022021)] [] 21004022021),
  (.ret (.ite (.cmp .Eq (.call (.glob 16 23023023026) [(.var 7 23027023032)] 23023023033) (.const (.int 1) 23037023038) 23023023038) (.sub (.var 7 23011023016) (.const (.int 0) 23017023018) 23011023019) (.tup [(.const (.str 11) 23045023052),(.call (.glob 3 23054023059) [(.callk (.glob 17 23060023066) [(.var 7 23067023072)] 18 (.glob 19 23078023087) 23074023087 23060023088)] 23054023089)] 0 23044023090) 23011023090) 23004023090)]
noncomputable def f_union_of:FnI:=⟨[4],[],[(4,.local),(6,.local),(7,.local),(9,.local),(8,.globalImplicit),(13,.globalImplicit),(15,.globalImplicit),(16,.globalImplicit),(3,.globalImplicit),(17,.globalImplicit),(19,.globalImplicit)],b_union_of,false⟩
noncomputable def b_parts_of_kind:List MS:=[
  (.asg (.var 21 25004025008) (.sub (.var 20 25011025015) (.const (.int 0) 25016025017) 25011025018) 25004025018),
  (.ifs (.cmp .Eq (.var 21 26007026011) (.const (.str 1) 26015026021) 26007026021) [(.ret (.call (.glob 8 27015027019) [(.sub (.var 20 27020027024) (.const (.int 2) 27025027026) 27020027027)] 27015027028) 27008027028)] [] 26004027028),
  (.ifs (.cmp .Eq (.var 21 28007028011) (.const (.str 3) 28015028022) 28007028022) [(.ret (.bin .Add (.call (.glob 8 29015029019) [(.sub (.var 20 29020029024) (.const (.int 1) 29025029026) 29020029027)] 29015029028) (.ite (.cmp .Is (.sub (.var 20 29038029042) (.const (.int 2) 29043029044) 29038029045) (.const .none 29049029053) 29038029053) (.lst [] 29032029034) (.lst [(.sub (.var 20 29060029064) (.const (.int 2) 29065029066) 29060029067)] 29059029068) 29032029068) 29015029069) 29008029069)] [] 28004029069),
  (.ifs (.cmp .Eq (.var 21 30007030011) (.const (.str 11) 30015030022) 30007030022) [(.ret (.call (.glob 8 31015031019) [(.sub (.var 20 31020031024) (.const (.int 1) 31025031026) 31020031027)] 31015031028) 31008031028)] [] 30004031028),
  (.ifs (.cmp .Eq (.var 21 32007032011) (.const (.str 22) 32015032020) 32007032020) [(.ret (.lst [(.sub (.var 20 33016033020) (.const (.int 2) 33021033022) 33016033023),(.sub (.var 20 33025033029) (.const (.int 3) 33030033031) 33025033032),(.sub (.var 20 33034033038) (.const (.int 4) 33039033040) 33034033041)] 33015033042) 33008033042)] [] 32004033042),
  (.ret (.ite (.cmp .Eq (.var 21 34024034028) (.const (.str 23) 34032034040) 34024034040) (.lst [(.sub (.var 20 34012034016) (.const (.int 1) 34017034018) 34012034019)] 34011034020) (.lst [] 34046034048) 34011034048) 34004034048)]
noncomputable def f_parts_of_kind:FnI:=⟨[20],[],[(20,.local),(21,.local),(8,.globalImplicit)],b_parts_of_kind,true⟩
noncomputable def b_substituted:List MS:=[
  (.ifs (.cmp .Eq (.sub (.var 20 48007048011) (.const (.int 0) 48012048013) 48007048014) (.const (.str 25) 48018048023) 48007048023) [(.ret (.meth (.var 24 49015049020) 26 [(.sub (.var 20 49025049029) (.const (.int 1) 49030049031) 49025049032),(.var 20 49034049038)] 49015049024 49015049039) 49008049039)] [] 48004049039),
  (.ifs (.cmp .Eq (.sub (.var 20 50007050011) (.const (.int 0) 50012050013) 50007050014) (.const (.str 22) 50018050023) 50007050023) [(.asg (.var 27 51008051013) (.call (.glob 28 51016051020) [(.var 24 51021051026)] 51016051027) 51008051027),
  (.exp (.meth (.var 27 52008052013) 10 [(.sub (.var 20 52018052022) (.const (.int 1) 52023052024) 52018052025),(.const .none 52027052031)] 52008052017 52008052032) 52008052032),
  (.asg (.var 29 53008053014) (.tup [(.call (.glob 30 53018053029) [(.sub (.var 20 53030053034) (.const (.int 2) 53035053036) 53030053037),(.var 24 53039053044)] 53018053045),(.call (.glob 30 53047053058) [(.sub (.var 20 53059053063) (.const (.int 3) 53064053065) 53059053066),(.var 24 53068053073)] 53047053074)] 0 53017053075) 53008053075),
  (.ret (.bin .Add (.bin .Add (.tup [(.const (.str 22) 54016054021),(.sub (.var 20 54023054027) (.const (.int 1) 54028054029) 54023054030)] 0 54015054031) (.var 29 54034054040) 54015054040) (.tup [(.call (.glob 30 54044054055) [(.sub (.var 20 54056054060) (.const (.int 4) 54061054062) 54056054063),(.var 27 54065054070)] 54044054071)] 0 54043054073) 54015054073) 54008054073)] [] 50004054073),
  (.asg (.var 31 55004055009) (.call (.glob 32 55012055025) [(.var 20 55026055030)] 55012055031) 55004055031),
  (.ret (.ite (.cmp .Eq (.var 31 56019056024) (.lst [] 56028056030) 56019056030) (.var 20 56011056015) (.call (.glob 33 56036056048) [(.var 20 56049056053),(.comp (.call (.glob 30 56056056067) [(.var 34 56068056072),(.var 24 56074056079)] 56056056080) [(.gen (.var 34 56085056089) (.var 31 56093056098) [])] [(0,.local),(34,.local),(30,.globalImplicit),(24,.free)] 56055056099)] 56036056100) 56011056100) 56004056100)]
noncomputable def f_substituted:FnI:=⟨[20,24],[],[(20,.local),(24,.cell),(27,.local),(29,.local),(31,.local),(28,.globalImplicit),(30,.globalImplicit),(32,.globalImplicit),(33,.globalImplicit)],b_substituted,false⟩
noncomputable def b_free_vars:List MS:=[
  (.asg (.tup [(.var 7 58004058009),(.var 6 58011058015)] 0 58004058015) (.tup [(.mk (.lst [] 58019058021)),(.mk (.lst [(.tup [(.var 20 58025058029),(.tup [] 0 58031058033)] 0 58024058034)] 58023058035))] 0 58018058036) 58004058036),
  (.whl (.cmp .NotEq (.var 6 59010059014) (.lst [] 59018059020) 59010059020) [(.asg (.tup [(.var 9 60008060012),(.var 35 60014060019)] 0 60008060019) (.meth (.var 6 60022060026) 10 [] 60022060030 60022060032) 60008060032),
  (.ifs (.cmp .Eq (.sub (.var 9 61011061015) (.const (.int 0) 61016061017) 61011061018) (.const (.str 25) 61022061027) 61011061027) [(.ifs (.bop true [(.cmp .NotIn (.sub (.var 9 62015062019) (.const (.int 1) 62020062021) 62015062022) (.var 35 62030062035) 62015062035),(.cmp .NotIn (.sub (.var 9 62040062044) (.const (.int 1) 62045062046) 62040062047) (.var 7 62055062060) 62040062060)] 62015062060) [(.exp (.meth (.var 7 63016063021) 14 [(.sub (.var 9 63029063033) (.const (.int 1) 63034063035) 63029063036)] 63016063028 63016063037) 63016063037)] [] 62012063037)] [(.ifs (.cmp .Eq (.sub (.var 9 64013064017) (.const (.int 0) 64018064019) 64013064020) (.const (.str 22) 64024064029) 64013064029) [(.exp (.meth (.var 6 65012065016) 14 [(.tup [(.sub (.var 9 65025065029) (.const (.int 4) 65030065031) 65025065032),(.bin .Add (.var 35 65034065039) (.tup [(.sub (.var 9 65043065047) (.const (.int 1) 65048065049) 65043065050)] 0 65042065052) 65034065052)] 0 65024065053)] 65012065023 65012065054) 65012065054),
  (.exp (.meth (.var 6 66012066016) 12 [(.lst [(.tup [(.sub (.var 9 66026066030) (.const (.int 3) 66031066032) 66026066033),(.var 35 66035066040)] 0 66025066041),(.tup [(.sub (.var 9 66044066048) (.const (.int 2) 66049066050) 66044066051),(.var 35 66053066058)] 0 66043066059)] 66024066060)] 66012066023 66012066061) 66012066061)] [(.exp (.meth (.var 6 68012068016) 12 [(.comp (.tup [(.var 34 68026068030),(.var 35 68032068037)] 0 68025068038) [(.gen (.var 34 68043068047) (.slc (.call (.glob 32 68051068064) [(.var 9 68065068069)] 68051068070) none none (some (.neg (.const (.int 1) 68074068075) 68073068075)) 68071068075 68051068076) [])] [(0,.local),(34,.local),(35,.free)] 68024068077)] 68012068023 68012068078) 68012068078)] 64008068078)] 61008068078)] 59004068078),
  (.ret (.var 7 69011069016) 69004069016)]
noncomputable def f_free_vars:FnI:=⟨[20],[],[(20,.local),(7,.local),(6,.local),(9,.local),(35,.cell),(32,.globalImplicit)],b_free_vars,true⟩
noncomputable def b_opened:List MS:=[
  (.asg (.var 7 71004071009) (.lst [] 71012071014) 71004071014),
  (.whl (.cmp .Eq (.sub (.var 20 72010072014) (.const (.int 0) 72015072016) 72010072017) (.const (.str 22) 72021072026) 72010072026) [(.exp (.meth (.var 7 73008073013) 14 [(.tup [(.sub (.var 20 73022073026) (.const (.int 1) 73027073028) 73022073029),(.sub (.var 20 73031073035) (.const (.int 2) 73036073037) 73031073038),(.sub (.var 20 73040073044) (.const (.int 3) 73045073046) 73040073047)] 0 73021073048)] 73008073020 73008073049) 73008073049),
  (.asg (.var 20 74008074012) (.sub (.var 20 74015074019) (.const (.int 4) 74020074021) 74015074022) 74008074022)] 72004074022),
  (.ret (.tup [(.var 7 75012075017),(.var 20 75019075023)] 0 75011075024) 75004075024)]
noncomputable def f_opened:FnI:=⟨[20],[],[(20,.local),(7,.local)],b_opened,true⟩
noncomputable def b_kind_text:List MS:=[
  (.asg (.var 21 80004080008) (.sub (.var 20 80011080015) (.const (.int 0) 80016080017) 80011080018) 80004080018),
  (.ifs (.cmp .Eq (.var 21 81007081011) (.const (.str 1) 81015081021) 81007081021) [(.asg (.var 36 82008082014) (.meth (.const (.str 37) 82017082021) 38 [(.comp (.call (.glob 19 82028082037) [(.var 39 82038082043)] 82028082044) [(.gen (.var 39 82049082054) (.sub (.var 20 82058082062) (.const (.int 2) 82063082064) 82058082065) [])] [(0,.local),(39,.local),(19,.globalImplicit)] 82027082066)] 82017082026 82017082067) 82008082067),
  (.ret (.bin .Add (.sub (.var 20 83015083019) (.const (.int 1) 83020083021) 83015083022) (.ite (.cmp .NotEq (.sub (.var 20 83048083052) (.const (.int 2) 83053083054) 83048083055) (.tup [] 0 83059083061) 83048083061) (.bin .Add (.bin .Add (.const (.str 40) 83026083029) (.var 36 83032083038) 83026083038) (.const (.str 41) 83041083044) 83026083044) (.const (.str 42) 83067083069) 83026083069) 83015083070) 83008083070)] [] 81004083070),
  (.ifs (.cmp .Eq (.var 21 84007084011) (.const (.str 3) 84015084022) 84007084022) [(.asg (.var 43 85008085012) (.bin .Add (.comp (.call (.glob 19 85016085025) [(.var 44 85026085029)] 85016085030) [(.gen (.var 44 85035085038) (.sub (.var 20 85042085046) (.const (.int 1) 85047085048) 85042085049) [])] [(0,.local),(44,.local),(19,.globalImplicit)] 85015085050) (.ite (.cmp .Is (.sub (.var 20 85060085064) (.const (.int 2) 85065085066) 85060085067) (.const .none 85071085075) 85060085075) (.lst [] 85054085056) (.lst [(.bin .Add (.bin .Add (.const (.str 45) 85082085091) (.call (.glob 19 85094085103) [(.sub (.var 20 85104085108) (.const (.int 2) 85109085110) 85104085111)] 85094085112) 85082085112) (.const (.str 41) 85115085118) 85082085118)] 85081085119) 85054085119) 85015085120) 85008085120),
  (.ret (.bin .Add (.bin .Add (.const (.str 46) 86015086023) (.meth (.const (.str 37) 86026086030) 38 [(.var 43 86036086040)] 86026086035 86026086041) 86015086041) (.const (.str 41) 86044086047) 86015086047) 86008086047)] [] 84004086047),
  (.ifs (.cmp .Eq (.var 21 87007087011) (.const (.str 11) 87015087022) 87007087022) [(.ret (.bin .Add (.bin .Add (.const (.str 47) 88015088023) (.meth (.const (.str 37) 88026088030) 38 [(.comp (.call (.glob 19 88037088046) [(.var 44 88047088050)] 88037088051) [(.gen (.var 44 88056088059) (.sub (.var 20 88063088067) (.const (.int 1) 88068088069) 88063088070) [])] [(0,.local),(44,.local),(19,.globalImplicit)] 88036088071)] 88026088035 88026088072) 88015088072) (.const (.str 41) 88075088078) 88015088078) 88008088078)] [] 87004088078),
  (.ifs (.cmp .Eq (.var 21 89007089011) (.const (.str 22) 89015089020) 89007089020) [(.ret (.bin .Add (.bin .Add (.call (.glob 19 90015090024) [(.sub (.var 20 90025090029) (.const (.int 4) 90030090031) 90025090032)] 90015090033) (.const (.str 48) 90036090045) 90015090045) (.call (.glob 49 90048090059) [(.var 20 90060090064)] 90048090065) 90015090065) 90008090065)] [] 89004090065),
  (.ifs (.cmp .Eq (.var 21 91007091011) (.const (.str 23) 91015091023) 91007091023) [(.ret (.bin .Add (.bin .Add (.const (.str 50) 92015092022) (.call (.glob 19 92025092034) [(.sub (.var 20 92035092039) (.const (.int 1) 92040092041) 92035092042)] 92025092043) 92015092043) (.const (.str 41) 92046092049) 92015092049) 92008092049)] [] 91004092049),
  (.ifs (.cmp .Eq (.var 21 93007093011) (.const (.str 51) 93015093019) 93007093019) [(.ret (.bin .Add (.bin .Add (.const (.str 52) 94015094024) (.sub (.var 20 94027094031) (.const (.int 1) 94032094033) 94027094034) 94015094034) (.const (.str 53) 94037094040) 94015094040) 94008094040)] [] 93004094040),
  (.ifs (.cmp .Eq (.var 21 95007095011) (.const (.str 54) 95015095018) 95007095018) [(.ret (.call (.glob 55 96015096018) [(.sub (.var 20 96019096023) (.const (.int 1) 96024096025) 96019096026)] 96015096027) 96008096027)] [] 95004096027),
  (.ret (.ite (.cmp .Eq (.var 21 97022097026) (.const (.str 25) 97030097035) 97022097035) (.sub (.var 20 97011097015) (.const (.int 1) 97016097017) 97011097018) (.const (.str 56) 97041097050) 97011097050) 97004097050)]
noncomputable def f_kind_text:FnI:=⟨[20],[],[(20,.local),(21,.local),(36,.local),(43,.local),(19,.globalImplicit),(49,.globalImplicit),(55,.globalImplicit)],b_kind_text,true⟩
noncomputable def b_Sides___init__:List MS:=[
  (.asg (.attr (.var 57 123008123012) 58 123008123017) (.ite (.cmp .Is (.var 58 123026123030) (.const .none 123034123038) 123026123038) (.dct [] [] 123020123022) (.var 58 123044123048) 123020123048) 123008123048),
  (.asg (.attr (.var 57 124008124012) 59 124008124017) (.var 59 124020124024) 124008124024)]
noncomputable def f_Sides___init__:FnI:=⟨[57,58,59],[.none,.int 0],[(57,.local),(58,.local),(59,.local)],b_Sides___init__,false⟩
noncomputable def b_Sides_copied:List MS:=[
  (.ret (.call (.glob 60 127015127020) [(.call (.glob 28 127021127025) [(.attr (.var 57 127026127030) 58 127026127035)] 127021127036),(.attr (.var 57 127038127042) 59 127038127047)] 127015127048) 127008127048)]
noncomputable def f_Sides_copied:FnI:=⟨[57],[],[(57,.local),(60,.globalImplicit),(28,.globalImplicit)],b_Sides_copied,false⟩
noncomputable def b_Sides_opened:List MS:=[
  (.asg (.tup [(.var 21 130008130012),(.var 1 130014130018),(.var 62 130020130025),(.var 63 130027130032),(.var 64 130034130038)] 0 130008130038) (.var 20 130041130045) 130008130045),
  (.asg (.attr (.var 57 131008131012) 59 131008131017) (.bin .Add (.attr (.var 57 131020131024) 59 131020131029) (.const (.int 1) 131032131033) 131020131033) 131008131033),
  (.asg (.var 65 132008132013) (.bin .Add (.bin .Add (.sub (.meth (.var 1 132016132020) 66 [(.const (.str 67) 132027132030)] 132016132026 132016132031) (.const (.int 0) 132032132033) 132016132034) (.const (.str 67) 132037132040) 132016132040) (.call (.glob 55 132043132046) [(.attr (.var 57 132047132051) 59 132047132056)] 132043132057) 132016132057) 132008132057),
  (.asg (.var 68 133008133014) (.ite (.cmp .Eq (.var 62 133023133028) (.glob 13 133032133038) 133023133038) (.tup [] 0 133017133019) (.tup [(.var 62 133045133050)] 0 133044133052) 133017133052) 133008133052),
  (.asg (.var 69 134008134014) (.ite (.cmp .Eq (.var 63 134023134028) (.glob 15 134032134035) 134023134035) (.tup [] 0 134017134019) (.tup [(.var 63 134042134047)] 0 134041134049) 134017134049) 134008134049),
  (.asg (.sub (.attr (.var 57 135008135012) 58 135008135017) (.var 65 135018135023) 135008135024) (.call (.glob 70 135027135031) [(.var 61 135032135040),(.attr (.var 57 135042135046) 59 135042135051),(.var 68 135053135059),(.var 69 135061135067),(.call (.glob 71 135069135080) [(.var 64 135081135085),(.var 1 135087135091)] 135069135092)] 135027135093) 135008135093),
  (.ret (.tup [(.var 65 136016136021),(.call (.glob 30 136023136034) [(.var 64 136035136039),(.dct [(.var 1 136042136046)] [(.tup [(.const (.str 25) 136049136054),(.var 65 136056136061)] 0 136048136062)] 136041136063)] 136023136064)] 0 136015136065) 136008136065)]
noncomputable def f_Sides_opened:FnI:=⟨[57,20,61],[],[(57,.local),(20,.local),(61,.local),(21,.local),(1,.local),(62,.local),(63,.local),(64,.local),(65,.local),(68,.local),(69,.local),(55,.globalImplicit),(13,.globalImplicit),(15,.globalImplicit),(70,.globalImplicit),(71,.globalImplicit),(30,.globalImplicit)],b_Sides_opened,true⟩
noncomputable def b_Sides_is_asked:List MS:=[
  (.ret (.bop true [(.cmp .Eq (.sub (.var 20 142015142019) (.const (.int 0) 142020142021) 142015142022) (.const (.str 25) 142026142031) 142015142031),(.attr (.meth (.var 57 142036142040) 72 [(.sub (.var 20 142046142050) (.const (.int 1) 142051142052) 142046142053)] 142036142045 142036142054) 61 142036142063)] 142015142063) 142008142063)]
noncomputable def f_Sides_is_asked:FnI:=⟨[57,20],[],[(57,.local),(20,.local)],b_Sides_is_asked,false⟩
noncomputable def b_left_cases:List MS:=[
  (.asg (.var 21 179004179008) (.sub (.var 20 179011179015) (.const (.int 0) 179016179017) 179011179018) 179004179018),
  (.ifs (.cmp .Eq (.var 21 180007180011) (.const (.str 11) 180015180022) 180007180022) [(.asg (.var 7 181008181013) (.comp (.var 74 181017181021) [(.gen (.var 34 181026181030) (.sub (.var 20 181034181038) (.const (.int 1) 181039181040) 181034181041) []),(.gen (.var 74 181046181050) (.call (.glob 73 181054181064) [(.var 34 181065181069)] 181054181070) [])] [(0,.local),(34,.local),(74,.local),(73,.globalImplicit)] 181016181071) 181008181071)] [(.ifs (.bop true [(.cmp .Eq (.var 21 182009182013) (.const (.str 22) 182017182022) 182009182022),(.not (.call (.glob 71 182032182043) [(.sub (.var 20 182044182048) (.const (.int 4) 182049182050) 182044182051),(.sub (.var 20 182053182057) (.const (.int 1) 182058182059) 182053182060)] 182032182061) 182028182061)] 182009182062) [(.asg (.var 7 183008183013) (.comp (.tup [(.const (.str 22) 183018183023),(.sub (.var 20 183025183029) (.const (.int 1) 183030183031) 183025183032),(.sub (.var 20 183034183038) (.const (.int 2) 183039183040) 183034183041),(.sub (.var 20 183043183047) (.const (.int 3) 183048183049) 183043183050),(.var 74 183052183056)] 0 183017183057) [(.gen (.var 74 183062183066) (.call (.glob 73 183070183080) [(.sub (.var 20 183081183085) (.const (.int 4) 183086183087) 183081183088)] 183070183089) [])] [(0,.local),(74,.local),(20,.free)] 183016183090) 183008183090)] [(.ifs (.cmp .Eq (.var 21 184009184013) (.const (.str 3) 184017184024) 184009184024) [(.asg (.var 7 185008185013) (.call (.glob 75 185016185027) [(.var 20 185028185032)] 185016185033) 185008185033)] [(.asg (.var 7 187008187013) (.lst [(.var 20 187017187021)] 187016187022) 187008187022)] 184004187022)] 182004187022)] 180004187022),
  (.ret (.ite (.cmp .LtE (.call (.glob 16 188020188023) [(.var 7 188024188029)] 188020188030) (.glob 76 188034188044) 188020188044) (.var 7 188011188016) (.lst [(.var 20 188051188055)] 188050188056) 188011188056) 188004188056)]
noncomputable def f_left_cases:FnI:=⟨[20],[],[(20,.cell),(21,.local),(7,.local),(71,.globalImplicit),(73,.globalImplicit),(75,.globalImplicit),(16,.globalImplicit),(76,.globalImplicit)],b_left_cases,true⟩
noncomputable def b_tuple_cases:List MS:=[
  (.asg (.var 58 190004190008) (.lst [(.tup [] 0 190012190014)] 190011190015) 190004190015),
  (.fors (.var 34 191008191012) (.sub (.var 20 191016191020) (.const (.int 1) 191021191022) 191016191023) [(.asg (.var 77 192008192013) (.call (.glob 73 192016192026) [(.var 34 192027192031)] 192016192032) 192008192032),
  (.ifs (.cmp .Gt (.bin .Mult (.call (.glob 16 193011193014) [(.var 58 193015193019)] 193011193020) (.call (.glob 16 193023193026) [(.var 77 193027193032)] 193023193033) 193011193033) (.glob 76 193036193046) 193011193046) [(.asg (.var 77 194012194017) (.lst [(.var 34 194021194025)] 194020194026) 194012194026)] [] 193008194026),
  (.asg (.var 58 195008195012) (.comp (.bin .Add (.var 78 195016195019) (.tup [(.var 74 195023195027)] 0 195022195029) 195016195029) [(.gen (.var 78 195034195037) (.var 58 195041195045) []),(.gen (.var 74 195050195054) (.var 77 195058195063) [])] [(0,.local),(78,.local),(74,.local),(77,.free)] 195015195064) 195008195064)] 191004195064),
  (.ret (.comp (.call (.glob 79 196012196020) [(.var 78 196021196024),(.sub (.var 20 196026196030) (.const (.int 2) 196031196032) 196026196033)] 196012196034) [(.gen (.var 78 196039196042) (.var 58 196046196050) [])] [(0,.local),(78,.local),(79,.globalImplicit),(20,.free)] 196011196051) 196004196051)]
noncomputable def f_tuple_cases:FnI:=⟨[20],[],[(20,.cell),(58,.local),(34,.local),(77,.cell),(73,.globalImplicit),(16,.globalImplicit),(76,.globalImplicit)],b_tuple_cases,true⟩
noncomputable def b_is_empty:List MS:=[
  (.ifs (.cmp .Eq (.sub (.var 20 198007198011) (.const (.int 0) 198012198013) 198007198014) (.const (.str 3) 198018198025) 198007198025) [(.ret (.cmp .In (.const (.bool true) 199015199019) (.comp (.call (.glob 80 199024199032) [(.var 34 199033199037)] 199024199038) [(.gen (.var 34 199043199047) (.sub (.var 20 199051199055) (.const (.int 1) 199056199057) 199051199058) [])] [(0,.local),(34,.local),(80,.globalImplicit)] 199023199059) 199015199059) 199008199059)] [] 198004199059),
  (.ifs (.cmp .Eq (.sub (.var 20 200007200011) (.const (.int 0) 200012200013) 200007200014) (.const (.str 22) 200018200023) 200007200023) [(.ret (.call (.glob 80 201015201023) [(.sub (.var 20 201024201028) (.const (.int 4) 201029201030) 201024201031)] 201015201032) 201008201032)] [] 200004201032),
  (.ret (.cmp .Eq (.var 20 202011202015) (.glob 13 202019202025) 202011202025) 202004202025)]
noncomputable def f_is_empty:FnI:=⟨[20],[],[(20,.local),(80,.globalImplicit),(13,.globalImplicit)],b_is_empty,true⟩
noncomputable def b_tail_of:List MS:=[
  (.ret (.ite (.bop true [(.cmp .IsNot (.sub (.var 20 204019204023) (.const (.int 2) 204024204025) 204019204026) (.const .none 204034204038) 204019204038),(.call (.glob 80 204043204051) [(.sub (.var 20 204052204056) (.const (.int 2) 204057204058) 204052204059)] 204043204060)] 204019204060) (.const .none 204011204015) (.sub (.var 20 204066204070) (.const (.int 2) 204071204072) 204066204073) 204011204073) 204004204073)]
noncomputable def f_tail_of:FnI:=⟨[20],[],[(20,.local),(80,.globalImplicit)],b_tail_of,true⟩
noncomputable def b_Search___init__:List MS:=[
  (.asg (.attr (.var 57 211008211012) 4 211008211018) (.var 4 211021211026) 211008211026),
  (.asg (.attr (.var 57 212008212012) 81 212008212017) (.var 81 212020212024) 212008212024)]
noncomputable def f_Search___init__:FnI:=⟨[57,4,81],[],[(57,.local),(4,.local),(81,.local)],b_Search___init__,false⟩
noncomputable def b_Search_run:List MS:=[
  (.asg (.var 84 215008215015) (.mk (.lst [(.tup [(.mk (.call (.glob 8 215020215024) [(.var 82 215025215030)] 215020215031)),(.var 83 215033215038)] 0 215019215039)] 215018215040)) 215008215040),
  (.whl (.bop true [(.cmp .NotEq (.var 84 216014216021) (.lst [] 216025216027) 216014216027),(.cmp .Gt (.attr (.var 57 216032216036) 81 216032216041) (.const (.int 0) 216044216045) 216032216045)] 216014216045) [(.asg (.tup [(.var 6 217012217016),(.var 9 217018217022)] 0 217012217022) (.meth (.var 84 217025217032) 10 [] 217025217036 217025217038) 217012217038),
  (.asg (.var 7 218012218017) (.meth (.var 57 218020218024) 85 [(.var 6 218033218037),(.var 9 218039218043),(.var 84 218045218052)] 218020218032 218020218053) 218012218053),
  (.ifs (.cmp .IsNot (.var 7 219015219020) (.const .none 219028219032) 219015219032) [(.ret (.var 7 220023220028) 220016220028)] [] 219012220028)] 216008220028),
  (.ret (.const .none 221015221019) 221008221019)]
noncomputable def f_Search_run:FnI:=⟨[57,82,83],[],[(57,.local),(82,.local),(83,.local),(84,.local),(6,.local),(9,.local),(7,.local),(8,.globalImplicit)],b_Search_run,false⟩
noncomputable def b_Search_settled:List MS:=[
  (.whl (.cmp .NotEq (.var 6 224014224018) (.lst [] 224022224024) 224014224024) [(.asg (.attr (.var 57 225012225016) 81 225012225021) (.bin .Sub (.attr (.var 57 225024225028) 81 225024225033) (.const (.int 1) 225036225037) 225024225037) 225012225037),
  (.asg (.var 86 226012226016) (.ite (.cmp .GtE (.attr (.var 57 226051226055) 81 226051226060) (.const (.int 0) 226064226065) 226051226065) (.meth (.var 57 226019226023) 87 [(.meth (.var 6 226029226033) 10 [] 226029226037 226029226039),(.var 83 226041226046)] 226019226028 226019226047) (.lst [] 226071226073) 226019226073) 226012226073),
  (.ifs (.cmp .Eq (.var 86 227015227019) (.lst [] 227023227025) 227015227025) [(.ret (.const .none 228023228027) 228016228027)] [] 227012228027),
  (.fors (.var 88 229016229019) (.slc (.var 86 229023229027) none (some (.const (.int 0) 229029229030)) (some (.neg (.const (.int 1) 229032229033) 229031229033)) 229028229033 229023229034) [(.exp (.meth (.var 84 230016230023) 14 [(.tup [(.mk (.bin .Add (.var 6 230032230036) (.var 88 230039230042) 230032230042)),(.meth (.var 83 230044230049) 89 [] 230044230056 230044230058)] 0 230031230059)] 230016230030 230016230060) 230016230060)] 229012230060),
  (.exp (.meth (.var 6 231012231016) 12 [(.sub (.var 86 231024231028) (.const (.int 0) 231029231030) 231024231031)] 231012231023 231012231032) 231012231032)] 224008231032),
  (.ret (.ite (.meth (.var 57 232024232028) 90 [(.var 83 232042232047)] 232024232041 232024232048) (.var 83 232015232020) (.const .none 232054232058) 232015232058) 232008232058)]
noncomputable def f_Search_settled:FnI:=⟨[57,6,83,84],[],[(57,.local),(6,.local),(83,.local),(84,.local),(86,.local),(88,.local)],b_Search_settled,false⟩
noncomputable def b_Search_step:List MS:=[
  (.asg (.tup [(.var 21 235008235012),(.var 44 235014235017),(.var 92 235019235024)] 0 235008235024) (.var 91 235027235031) 235008235031),
  (.ifs (.cmp .Eq (.var 44 236011236014) (.var 92 236018236023) 236011236023) [(.ret (.lst [(.lst [] 237020237022)] 237019237023) 237012237023)] [] 236008237023),
  (.ifs (.cmp .In (.const (.str 54) 238011238014) (.tup [(.sub (.var 44 238019238022) (.const (.int 0) 238023238024) 238019238025),(.sub (.var 92 238027238032) (.const (.int 0) 238033238034) 238027238035)] 0 238018238036) 238011238036) [(.ret (.meth (.var 57 239019239023) 93 [(.var 21 239032239036),(.var 44 239038239041),(.var 92 239043239048),(.var 83 239050239055)] 239019239031 239019239056) 239012239056)] [] 238008239056),
  (.ifs (.cmp .Eq (.var 21 240011240015) (.const (.str 94) 240019240025) 240011240025) [(.ret (.lst [(.lst [(.tup [(.const (.str 95) 241022241027),(.var 44 241029241032),(.var 92 241034241039)] 0 241021241040),(.tup [(.const (.str 95) 241043241048),(.var 92 241050241055),(.var 44 241057241060)] 0 241042241061)] 241020241062)] 241019241063) 241012241063)] [] 240008241063),
  (.ifs (.bop false [(.call (.glob 80 242011242019) [(.var 44 242020242023)] 242011242024),(.cmp .Eq (.var 92 242028242033) (.glob 15 242037242040) 242028242040)] 242011242040) [(.ret (.lst [(.lst [] 243020243022)] 243019243023) 243012243023)] [] 242008243023),
  (.ifs (.meth (.var 83 244011244016) 61 [(.var 44 244026244029)] 244011244025 244011244030) [(.ret (.meth (.var 57 245019245023) 96 [(.sub (.var 44 245030245033) (.const (.int 1) 245034245035) 245030245036),(.var 92 245038245043),(.var 83 245045245050)] 245019245029 245019245051) 245012245051)] [] 244008245051),
  (.ifs (.meth (.var 83 246011246016) 61 [(.var 92 246026246031)] 246011246025 246011246032) [(.ret (.meth (.var 57 247019247023) 97 [(.sub (.var 92 247030247035) (.const (.int 1) 247036247037) 247030247038),(.var 44 247040247043),(.var 83 247045247050)] 247019247029 247019247051) 247012247051)] [] 246008247051),
  (.ret (.meth (.var 57 248015248019) 98 [(.var 44 248028248031),(.var 92 248033248038),(.var 83 248040248045)] 248015248027 248015248046) 248008248046)]
noncomputable def f_Search_step:FnI:=⟨[57,91,83],[],[(57,.local),(91,.local),(83,.local),(21,.local),(44,.local),(92,.local),(80,.globalImplicit),(15,.globalImplicit)],b_Search_step,false⟩
noncomputable def b_Search_by_form:List MS:=[
  (.ifs (.cmp .Eq (.sub (.var 44 274011274014) (.const (.int 0) 274015274016) 274011274017) (.const (.str 11) 274021274028) 274011274028) [(.ret (.lst [(.comp (.tup [(.const (.str 95) 275022275027),(.var 34 275029275033),(.var 92 275035275040)] 0 275021275041) [(.gen (.var 34 275046275050) (.sub (.var 44 275054275057) (.const (.int 1) 275058275059) 275054275060) [])] [(0,.local),(34,.local),(92,.free)] 275020275061)] 275019275062) 275012275062)] [] 274008275062),
  (.ifs (.cmp .Eq (.sub (.var 44 276011276014) (.const (.int 0) 276015276016) 276011276017) (.const (.str 22) 276021276026) 276011276026) [(.ret (.lst [(.lst [(.tup [(.const (.str 95) 277022277027),(.sub (.meth (.var 83 277029277034) 99 [(.var 44 277042277045),(.const (.bool false) 277047277052)] 277029277041 277029277053) (.const (.int 1) 277054277055) 277029277056),(.var 92 277058277063)] 0 277021277064)] 277020277065)] 277019277066) 277012277066)] [] 276008277066),
  (.ifs (.cmp .Eq (.sub (.var 92 278011278016) (.const (.int 0) 278017278018) 278011278019) (.const (.str 11) 278023278030) 278011278030) [(.asg (.var 86 279012279016) (.comp (.lst [(.tup [(.const (.str 95) 279022279027),(.var 44 279029279032),(.var 34 279034279038)] 0 279021279039)] 279020279040) [(.gen (.var 34 279045279049) (.sub (.var 92 279053279058) (.const (.int 1) 279059279060) 279053279061) [])] [(0,.local),(34,.local),(44,.free)] 279019279062) 279012279062),
  (.ret (.bin .Add (.var 86 280019280023) (.ite (.cmp .Eq (.sub (.var 44 280077280080) (.const (.int 0) 280081280082) 280077280083) (.const (.str 25) 280087280092) 280077280092) (.lst [(.lst [(.tup [(.const (.str 95) 280030280035),(.meth (.meth (.var 83 280037280042) 72 [(.sub (.var 44 280048280051) (.const (.int 1) 280052280053) 280048280054)] 280037280047 280037280055) 63 [] 280037280061 280037280063),(.var 92 280065280070)] 0 280029280071)] 280028280072)] 280027280073) (.lst [] 280098280100) 280027280100) 280019280101) 280012280101)] [] 278008280101),
  (.ifs (.cmp .Eq (.sub (.var 92 281011281016) (.const (.int 0) 281017281018) 281011281019) (.const (.str 22) 281023281028) 281011281028) [(.ret (.lst [(.meth (.var 57 282020282024) 100 [(.var 44 282032282035),(.var 92 282037282042),(.var 83 282044282049)] 282020282031 282020282050)] 282019282051) 282012282051)] [] 281008282051),
  (.ifs (.cmp .Eq (.sub (.var 44 283011283014) (.const (.int 0) 283015283016) 283011283017) (.const (.str 25) 283021283026) 283011283026) [(.asg (.var 63 284012284017) (.meth (.meth (.var 83 284020284025) 72 [(.sub (.var 44 284031284034) (.const (.int 1) 284035284036) 284031284037)] 284020284030 284020284038) 63 [] 284020284044 284020284046) 284012284046),
  (.asg (.var 86 285012285016) (.ite (.cmp .Eq (.var 63 285025285030) (.glob 15 285034285037) 285025285037) (.lst [] 285019285021) (.lst [(.lst [(.tup [(.const (.str 95) 285046285051),(.var 63 285053285058),(.var 92 285060285065)] 0 285045285066)] 285044285067)] 285043285068) 285019285068) 285012285068),
  (.ret (.bin .Add (.var 86 286019286023) (.ite (.cmp .Eq (.sub (.var 92 286077286082) (.const (.int 0) 286083286084) 286077286085) (.const (.str 25) 286089286094) 286077286094) (.lst [(.lst [(.tup [(.const (.str 95) 286030286035),(.var 44 286037286040),(.meth (.meth (.var 83 286042286047) 72 [(.sub (.var 92 286053286058) (.const (.int 1) 286059286060) 286053286061)] 286042286052 286042286062) 62 [] 286042286068 286042286070)] 0 286029286071)] 286028286072)] 286027286073) (.lst [] 286100286102) 286027286102) 286019286103) 286012286103)] [] 283008286103),
  (.ifs (.cmp .Eq (.sub (.var 92 287011287016) (.const (.int 0) 287017287018) 287011287019) (.const (.str 25) 287023287028) 287011287028) [(.asg (.var 62 288012288017) (.meth (.meth (.var 83 288020288025) 72 [(.sub (.var 92 288031288036) (.const (.int 1) 288037288038) 288031288039)] 288020288030 288020288040) 62 [] 288020288046 288020288048) 288012288048),
  (.ret (.ite (.cmp .Eq (.var 62 289025289030) (.glob 13 289034289040) 289025289040) (.lst [] 289019289021) (.lst [(.lst [(.tup [(.const (.str 95) 289049289054),(.var 44 289056289059),(.var 62 289061289066)] 0 289048289067)] 289047289068)] 289046289069) 289019289069) 289012289069)] [] 287008289069),
  (.ret (.meth (.var 57 290015290019) 101 [(.var 44 290026290029),(.var 92 290031290036)] 290015290025 290015290037) 290008290037)]
noncomputable def f_Search_by_form:FnI:=⟨[57,44,92,83],[],[(57,.local),(44,.cell),(92,.cell),(83,.local),(86,.local),(63,.local),(62,.local),(15,.globalImplicit),(13,.globalImplicit)],b_Search_by_form,false⟩
noncomputable def b_Search_plain:List MS:=[
  (.asg (.var 102 298008298013) (.tup [(.sub (.var 44 298017298020) (.const (.int 0) 298021298022) 298017298023),(.sub (.var 92 298025298030) (.const (.int 0) 298031298032) 298025298033)] 0 298016298034) 298008298034),
  (.ifs (.cmp .Eq (.var 102 299011299016) (.tup [(.const (.str 1) 299021299027),(.const (.str 1) 299029299035)] 0 299020299036) 299011299036) [(.ret (.meth (.var 57 300019300023) 103 [(.var 44 300032300035),(.var 92 300037300042)] 300019300031 300019300043) 300012300043)] [] 299008300043),
  (.ifs (.cmp .Eq (.var 102 301011301016) (.tup [(.const (.str 3) 301021301028),(.const (.str 3) 301030301037)] 0 301020301038) 301011301038) [(.ret (.call (.glob 104 302019302029) [(.var 44 302030302033),(.var 92 302035302040)] 302019302041) 302012302041)] [] 301008302041),
  (.ifs (.cmp .Eq (.var 102 303011303016) (.tup [(.const (.str 23) 303021303029),(.const (.str 23) 303031303039)] 0 303020303040) 303011303040) [(.ret (.lst [(.lst [(.tup [(.const (.str 94) 304022304028),(.sub (.var 44 304030304033) (.const (.int 1) 304034304035) 304030304036),(.sub (.var 92 304038304043) (.const (.int 1) 304044304045) 304038304046)] 0 304021304047)] 304020304048)] 304019304049) 304012304049)] [] 303008304049),
  (.ifs (.bop false [(.bop true [(.cmp .Eq (.sub (.var 44 305011305014) (.const (.int 0) 305015305016) 305011305017) (.const (.str 23) 305021305029) 305011305029),(.cmp .Eq (.var 92 305034305039) (.glob 105 305043305047) 305034305047)] 305011305047),(.bop true [(.cmp .Eq (.sub (.var 44 305052305055) (.const (.int 0) 305056305057) 305052305058) (.const (.str 51) 305062305066) 305052305066),(.cmp .Eq (.var 92 305071305076) (.glob 106 305080305088) 305071305088)] 305052305088)] 305011305089) [(.ret (.lst [(.lst [] 306020306022)] 306019306023) 306012306023)] [] 305008306023),
  (.ret (.lst [] 307015307017) 307008307017)]
noncomputable def f_Search_plain:FnI:=⟨[57,44,92],[],[(57,.local),(44,.local),(92,.local),(102,.local),(104,.globalImplicit),(105,.globalImplicit),(106,.globalImplicit)],b_Search_plain,false⟩
noncomputable def b_Search_nominal:List MS:=[
  (.fors (.var 97 310012310017) (.meth (.attr (.var 57 310021310025) 4 310021310031) 107 [(.var 44 310039310042)] 310021310038 310021310043) [(.ifs (.cmp .Eq (.sub (.var 97 311015311020) (.const (.int 1) 311021311022) 311015311023) (.sub (.var 92 311027311032) (.const (.int 1) 311033311034) 311027311035) 311015311035) [(.ret (.lst [(.comp (.tup [(.const (.str 94) 312026312032),(.var 39 312034312039),(.var 109 312041312047)] 0 312025312048) [(.gen (.tup [(.var 39 312053312058),(.var 109 312060312066)] 0 312053312066) (.call (.glob 108 312070312073) [(.sub (.var 97 312074312079) (.const (.int 2) 312080312081) 312074312082),(.sub (.var 92 312084312089) (.const (.int 2) 312090312091) 312084312092)] 312070312093) [])] [(0,.local),(39,.local),(109,.local)] 312024312094)] 312023312095) 312016312095)] [] 311012312095)] 310008312095),
  (.ret (.lst [] 313015313017) 313008313017)]
noncomputable def f_Search_nominal:FnI:=⟨[57,44,92],[],[(57,.local),(44,.local),(92,.local),(97,.local),(108,.globalImplicit)],b_Search_nominal,false⟩
noncomputable def b_Search_are_concrete:List MS:=[
  (.fors (.var 1 316012316016) (.call (.glob 17 316020316026) [(.attr (.var 83 316027316032) 58 316027316037)] 316020316038) [(.asg (.var 72 317012317016) (.sub (.attr (.var 83 317019317024) 58 317019317029) (.var 1 317030317034) 317019317035) 317012317035),
  (.ifs (.bop true [(.attr (.var 72 318015318019) 61 318015318028),(.attr (.var 72 318033318037) 71 318033318049),(.not (.meth (.var 57 318059318063) 110 [(.var 72 318071318075),(.var 83 318077318082)] 318059318070 318059318083) 318055318083)] 318015318084) [(.ret (.const (.bool false) 319023319028) 319016319028)] [] 318012319028)] 316008319028),
  (.ret (.const (.bool true) 320015320019) 320008320019)]
noncomputable def f_Search_are_concrete:FnI:=⟨[57,83],[],[(57,.local),(83,.local),(1,.local),(72,.local),(17,.globalImplicit)],b_Search_are_concrete,false⟩
noncomputable def b_tuple_ways:List MS:=[
  (.asg (.tup [(.var 43 345004345008),(.var 111 345010345014)] 0 345004345014) (.tup [(.sub (.var 44 345018345021) (.const (.int 1) 345022345023) 345018345024),(.call (.glob 112 345026345033) [(.var 44 345034345037)] 345026345038)] 0 345017345039) 345004345039),
  (.asg (.tup [(.var 109 346004346010),(.var 5 346012346016)] 0 346004346016) (.tup [(.sub (.var 92 346020346025) (.const (.int 1) 346026346027) 346020346028),(.call (.glob 112 346030346037) [(.var 92 346038346043)] 346030346044)] 0 346019346045) 346004346045),
  (.ifs (.bop false [(.cmp .Lt (.call (.glob 16 347007347010) [(.var 43 347011347015)] 347007347016) (.call (.glob 16 347019347022) [(.var 109 347023347029)] 347019347030) 347007347030),(.bop true [(.cmp .Is (.var 5 347035347039) (.const .none 347043347047) 347035347047),(.bop false [(.cmp .IsNot (.var 111 347053347057) (.const .none 347065347069) 347053347069),(.cmp .Gt (.call (.glob 16 347073347076) [(.var 43 347077347081)] 347073347082) (.call (.glob 16 347085347088) [(.var 109 347089347095)] 347085347096) 347073347096)] 347053347096)] 347035347097)] 347007347098) [(.ret (.lst [] 348015348017) 348008348017)] [] 347004348017),
  (.asg (.var 82 349004349009) (.comp (.tup [(.const (.str 95) 349014349019),(.sub (.var 43 349021349025) (.var 114 349026349028) 349021349029),(.ite (.cmp .Lt (.var 114 349045349047) (.call (.glob 16 349050349053) [(.var 109 349054349060)] 349050349061) 349045349061) (.sub (.var 109 349031349037) (.var 114 349038349040) 349031349041) (.var 5 349067349071) 349031349071)] 0 349013349072) [(.gen (.var 114 349077349079) (.call (.glob 113 349083349088) [(.call (.glob 16 349089349092) [(.var 43 349093349097)] 349089349098)] 349083349099) [])] [(0,.local),(114,.local),(16,.globalImplicit),(5,.free),(43,.free),(109,.free)] 349012349100) 349004349100),
  (.ret (.lst [(.bin .Add (.var 82 350012350017) (.ite (.cmp .Is (.var 111 350027350031) (.const .none 350035350039) 350027350039) (.lst [] 350021350023) (.lst [(.tup [(.const (.str 95) 350047350052),(.var 111 350054350058),(.var 5 350060350064)] 0 350046350065)] 350045350066) 350021350066) 350012350067)] 350011350068) 350004350068)]
noncomputable def f_tuple_ways:FnI:=⟨[44,92],[],[(44,.local),(92,.local),(43,.cell),(111,.local),(109,.cell),(5,.cell),(82,.local),(112,.globalImplicit),(16,.globalImplicit),(113,.globalImplicit)],b_tuple_ways,true⟩
noncomputable def b_is_subtype:List MS:=[
  (.ifs (.cmp .Eq (.var 44 352007352010) (.var 92 352014352019) 352007352019) [(.ret (.const (.bool true) 353015353019) 353008353019)] [] 352004353019),
  (.fors (.var 74 354008354012) (.call (.glob 73 354016354026) [(.var 44 354027354030)] 354016354031) [(.asg (.var 115 355008355014) (.call (.glob 116 355017355023) [(.var 4 355024355029),(.var 81 355031355035)] 355017355036) 355008355036),
  (.ifs (.cmp .Is (.meth (.var 115 356011356017) 117 [(.lst [(.tup [(.const (.str 95) 356024356029),(.var 74 356031356035),(.var 92 356037356042)] 0 356023356043)] 356022356044),(.call (.glob 60 356046356051) [] 356046356053)] 356011356021 356011356054) (.const .none 356058356062) 356011356062) [(.ret (.const (.bool false) 357019357024) 357012357024)] [] 356008357024)] 354004357024),
  (.ret (.const (.bool true) 358011358015) 358004358015)]
noncomputable def f_is_subtype:FnI:=⟨[4,44,92,81],[.int 4000],[(4,.local),(44,.local),(92,.local),(81,.local),(74,.local),(115,.local),(73,.globalImplicit),(116,.globalImplicit),(60,.globalImplicit)],b_is_subtype,true⟩
noncomputable def b_same_kind:List MS:=[
  (.ret (.bop false [(.cmp .Eq (.var 44 360011360014) (.var 92 360018360023) 360011360023),(.bop true [(.call (.glob 118 360028360038) [(.var 4 360039360044),(.var 44 360046360049),(.var 92 360051360056)] 360028360057),(.call (.glob 118 360062360072) [(.var 4 360073360078),(.var 92 360080360085),(.var 44 360087360090)] 360062360091)] 360028360091)] 360011360092) 360004360092)]
noncomputable def f_same_kind:FnI:=⟨[4,44,92],[],[(4,.local),(44,.local),(92,.local),(118,.globalImplicit)],b_same_kind,true⟩
noncomputable def b_names_within:List MS:=[
  (.asg (.tup [(.var 7 364004364009),(.var 6 364011364015)] 0 364004364015) (.tup [(.mk (.lst [] 364019364021)),(.mk (.lst [(.var 20 364024364028)] 364023364029))] 0 364018364030) 364004364030),
  (.whl (.cmp .NotEq (.var 6 365010365014) (.lst [] 365018365020) 365010365020) [(.asg (.var 9 366008366012) (.meth (.var 6 366015366019) 10 [] 366015366023 366015366025) 366008366025),
  (.ifs (.cmp .In (.sub (.var 9 367011367015) (.const (.int 0) 367016367017) 367011367018) (.tup [(.const (.str 25) 367023367028),(.const (.str 22) 367030367035)] 0 367022367036) 367011367036) [(.exp (.meth (.var 7 368012368017) 14 [(.sub (.var 9 368025368029) (.const (.int 1) 368030368031) 368025368032)] 368012368024 368012368033) 368012368033)] [] 367008368033),
  (.exp (.meth (.var 6 369008369012) 12 [(.call (.glob 32 369020369033) [(.var 9 369034369038)] 369020369039)] 369008369019 369008369040) 369008369040)] 365004369040),
  (.ret (.var 7 370011370016) 370004370016)]
noncomputable def f_names_within:FnI:=⟨[20],[],[(20,.local),(7,.local),(6,.local),(9,.local),(32,.globalImplicit)],b_names_within,true⟩
noncomputable def b_Meeting___init__:List MS:=[
  (.asg (.attr (.var 57 374008374012) 4 374008374018) (.var 4 374021374026) 374008374026),
  (.asg (.attr (.var 57 375008375012) 119 375008375018) (.var 119 375021375026) 375008375026),
  (.asg (.attr (.var 57 376008376012) 29 376008376019) (.dct [] [] 376022376024) 376008376024)]
noncomputable def f_Meeting___init__:FnI:=⟨[57,4,119],[],[(57,.local),(4,.local),(119,.local)],b_Meeting___init__,false⟩
noncomputable def b_Meeting_is_open:List MS:=[
  (.ret (.cmp .NotEq (.call (.glob 120 386015386024) [(.var 20 386025386029)] 386015386030) (.lst [] 386034386036) 386015386036) 386008386036)]
noncomputable def f_Meeting_is_open:FnI:=⟨[57,20],[],[(57,.local),(20,.local),(120,.globalImplicit)],b_Meeting_is_open,false⟩
noncomputable def b_Meeting_settled:List MS:=[
  (.fors (.var 122 389012389016) (.call (.glob 113 389020389025) [(.bin .Add (.call (.glob 16 389026389029) [(.var 121 389030389034)] 389026389035) (.const (.int 1) 389038389039) 389026389039)] 389020389040) [(.ifs (.cmp .Eq (.comp (.var 1 390016390020) [(.gen (.var 1 390025390029) (.call (.glob 120 390033390042) [(.var 20 390043390047)] 390033390048) [(.cmp .In (.var 1 390052390056) (.var 121 390060390064) 390052390064)])] [(0,.local),(1,.local),(121,.free)] 390015390065) (.lst [] 390069390071) 390015390071) [(.ret (.var 20 391023391027) 391016391027)] [] 390012391027),
  (.asg (.var 20 392012392016) (.call (.glob 30 392019392030) [(.var 20 392031392035),(.var 121 392037392041)] 392019392042) 392012392042)] 389008392042),
  (.ret (.var 20 393015393019) 393008393019)]
noncomputable def f_Meeting_settled:FnI:=⟨[57,20,121],[],[(57,.local),(20,.local),(121,.cell),(122,.local),(113,.globalImplicit),(16,.globalImplicit),(120,.globalImplicit),(30,.globalImplicit)],b_Meeting_settled,false⟩
noncomputable def b_Meeting_meet:List MS:=[
  (.ifs (.bop false [(.cmp .Eq (.var 44 396011396014) (.var 92 396018396023) 396011396023),(.cmp .Eq (.var 92 396027396032) (.glob 15 396036396039) 396027396039)] 396011396039) [(.ret (.tup [(.var 44 397020397023),(.var 121 397025397029)] 0 397019397030) 397012397030)] [] 396008397030),
  (.ifs (.cmp .Eq (.var 44 398011398014) (.glob 15 398018398021) 398011398021) [(.ret (.tup [(.var 92 399020399025),(.var 121 399027399031)] 0 399019399032) 399012399032)] [] 398008399032),
  (.ifs (.bop true [(.not (.meth (.var 57 400015400019) 123 [(.var 44 400028400031)] 400015400027 400015400032) 400011400032),(.not (.meth (.var 57 400042400046) 123 [(.var 92 400055400060)] 400042400054 400042400061) 400038400061)] 400011400062) [(.ifs (.call (.glob 118 401015401025) [(.attr (.var 57 401026401030) 4 401026401036),(.var 44 401038401041),(.var 92 401043401048)] 401015401049) [(.ret (.tup [(.var 44 402024402027),(.var 121 402029402033)] 0 402023402034) 402016402034)] [] 401012402034),
  (.ifs (.call (.glob 118 403015403025) [(.attr (.var 57 403026403030) 4 403026403036),(.var 92 403038403043),(.var 44 403045403048)] 403015403049) [(.ret (.tup [(.var 92 404024404029),(.var 121 404031404035)] 0 404023404036) 404016404036)] [] 403012404036)] [] 400008404036),
  (.fors (.var 21 405012405016) (.tup [(.const (.str 11) 405021405028),(.const (.str 22) 405030405035),(.const (.str 25) 405037405042)] 0 405020405043) [(.ifs (.cmp .Eq (.sub (.var 44 406015406018) (.const (.int 0) 406019406020) 406015406021) (.var 21 406025406029) 406015406029) [(.ret (.meth (.var 57 407023407027) 124 [(.var 21 407041407045),(.var 44 407047407050),(.var 92 407052407057),(.var 121 407059407063)] 407023407040 407023407064) 407016407064)] [] 406012407064),
  (.ifs (.cmp .Eq (.sub (.var 92 408015408020) (.const (.int 0) 408021408022) 408015408023) (.var 21 408027408031) 408015408031) [(.ret (.meth (.var 57 409023409027) 124 [(.var 21 409041409045),(.var 92 409047409052),(.var 44 409054409057),(.var 121 409059409063)] 409023409040 409023409064) 409016409064)] [] 408012409064)] 405008409064),
  (.ret (.meth (.var 57 410015410019) 125 [(.var 44 410031410034),(.var 92 410036410041),(.var 121 410043410047)] 410015410030 410015410048) 410008410048)]
noncomputable def f_Meeting_meet:FnI:=⟨[57,44,92,121],[],[(57,.local),(44,.local),(92,.local),(121,.local),(21,.local),(15,.globalImplicit),(118,.globalImplicit)],b_Meeting_meet,false⟩
noncomputable def b_Meeting_meet_by_word:List MS:=[
  (.ifs (.cmp .Eq (.var 21 413011413015) (.const (.str 11) 413019413026) 413011413026) [(.ret (.meth (.var 57 414019414023) 126 [(.var 44 414035414038),(.var 92 414040414045),(.var 121 414047414051)] 414019414034 414019414052) 414012414052)] [] 413008414052),
  (.ret (.ite (.cmp .Eq (.var 21 415053415057) (.const (.str 22) 415061415066) 415053415066) (.meth (.var 57 415015415019) 127 [(.var 44 415032415035),(.var 92 415037415042),(.var 121 415044415048)] 415015415031 415015415049) (.meth (.var 57 415072415076) 128 [(.var 44 415091415094),(.var 92 415096415101),(.var 121 415103415107)] 415072415090 415072415108) 415015415108) 415008415108)]
noncomputable def f_Meeting_meet_by_word:FnI:=⟨[57,21,44,92,121],[],[(57,.local),(21,.local),(44,.local),(92,.local),(121,.local)],b_Meeting_meet_by_word,false⟩
noncomputable def b_Meeting_meet_union:List MS:=[
  (.asg (.var 7 418008418013) (.mk (.lst [] 418016418018)) 418008418018),
  (.fors (.var 34 419012419016) (.sub (.var 44 419020419023) (.const (.int 1) 419024419025) 419020419026) [(.asg (.tup [(.var 20 420012420016),(.var 129 420018420022)] 0 420012420022) (.meth (.var 57 420025420029) 130 [(.var 34 420035420039),(.var 92 420041420046),(.var 121 420048420052)] 420025420034 420025420053) 420012420053),
  (.ifs (.not (.call (.glob 80 421019421027) [(.var 20 421028421032)] 421019421033) 421015421033) [(.exp (.meth (.var 7 422016422021) 14 [(.meth (.var 57 422029422033) 85 [(.var 20 422042422046),(.var 129 422048422052)] 422029422041 422029422053)] 422016422028 422016422054) 422016422054)] [] 421012422054)] 419008422054),
  (.ret (.tup [(.call (.glob 131 423016423024) [(.var 7 423025423030)] 423016423031),(.var 121 423033423037)] 0 423015423038) 423008423038)]
noncomputable def f_Meeting_meet_union:FnI:=⟨[57,44,92,121],[],[(57,.local),(44,.local),(92,.local),(121,.local),(7,.local),(34,.local),(20,.local),(129,.local),(80,.globalImplicit),(131,.globalImplicit)],b_Meeting_meet_union,false⟩
noncomputable def b_Meeting_meet_plain:List MS:=[
  (.asg (.var 102 443008443013) (.tup [(.sub (.var 44 443017443020) (.const (.int 0) 443021443022) 443017443023),(.sub (.var 92 443025443030) (.const (.int 0) 443031443032) 443025443033)] 0 443016443034) 443008443034),
  (.ifs (.cmp .Eq (.var 102 444011444016) (.tup [(.const (.str 3) 444021444028),(.const (.str 3) 444030444037)] 0 444020444038) 444011444038) [(.ret (.meth (.var 57 445019445023) 132 [(.var 44 445036445039),(.var 92 445041445046),(.var 121 445048445052)] 445019445035 445019445053) 445012445053)] [] 444008445053),
  (.ifs (.cmp .Eq (.var 102 446011446016) (.tup [(.const (.str 1) 446021446027),(.const (.str 1) 446029446035)] 0 446020446036) 446011446036) [(.ret (.meth (.var 57 447019447023) 133 [(.var 44 447035447038),(.var 92 447040447045),(.var 121 447047447051)] 447019447034 447019447052) 447012447052)] [] 446008447052),
  (.ifs (.cmp .Eq (.var 102 448011448016) (.tup [(.const (.str 23) 448021448029),(.const (.str 23) 448031448039)] 0 448020448040) 448011448040) [(.asg (.var 7 449012449017) (.meth (.var 57 449020449024) 134 [(.sub (.var 44 449036449039) (.const (.int 1) 449040449041) 449036449042),(.sub (.var 92 449044449049) (.const (.int 1) 449050449051) 449044449052),(.var 121 449054449058)] 449020449035 449020449059) 449012449059),
  (.ret (.ite (.cmp .Is (.var 7 450037450042) (.const .none 450046450050) 450037450050) (.tup [(.glob 13 450020450026),(.var 121 450028450032)] 0 450019450033) (.tup [(.tup [(.const (.str 23) 450058450066),(.sub (.var 7 450068450073) (.const (.int 0) 450074450075) 450068450076)] 0 450057450077),(.sub (.var 7 450079450084) (.const (.int 1) 450085450086) 450079450087)] 0 450056450088) 450019450088) 450012450088)] [] 448008450088),
  (.fors (.tup [(.var 9 451012451016),(.var 135 451018451023)] 0 451012451023) (.tup [(.tup [(.var 44 451029451032),(.var 92 451034451039)] 0 451028451040),(.tup [(.var 92 451043451048),(.var 44 451050451053)] 0 451042451054)] 0 451027451055) [(.ifs (.bop false [(.bop true [(.cmp .Eq (.sub (.var 9 452015452019) (.const (.int 0) 452020452021) 452015452022) (.const (.str 23) 452026452034) 452015452034),(.cmp .Eq (.var 135 452039452044) (.glob 105 452048452052) 452039452052)] 452015452052),(.bop true [(.cmp .Eq (.sub (.var 9 452057452061) (.const (.int 0) 452062452063) 452057452064) (.const (.str 51) 452068452072) 452057452072),(.cmp .Eq (.var 135 452077452082) (.glob 106 452086452094) 452077452094)] 452057452094)] 452015452095) [(.ret (.tup [(.var 9 453024453028),(.var 121 453030453034)] 0 453023453035) 453016453035)] [] 452012453035)] 451008453035),
  (.ret (.tup [(.glob 13 454016454022),(.var 121 454024454028)] 0 454015454029) 454008454029)]
noncomputable def f_Meeting_meet_plain:FnI:=⟨[57,44,92,121],[],[(57,.local),(44,.local),(92,.local),(121,.local),(102,.local),(7,.local),(9,.local),(135,.local),(13,.globalImplicit),(105,.globalImplicit),(106,.globalImplicit)],b_Meeting_meet_plain,false⟩
noncomputable def b_Meeting_meet_tuples:List MS:=[
  (.asg (.tup [(.var 43 457008457012),(.var 136 457014457020),(.var 111 457022457026),(.var 5 457028457032)] 0 457008457032) (.tup [(.sub (.var 44 457036457039) (.const (.int 1) 457040457041) 457036457042),(.sub (.var 92 457044457049) (.const (.int 1) 457050457051) 457044457052),(.call (.glob 112 457054457061) [(.var 44 457062457065)] 457054457066),(.call (.glob 112 457068457075) [(.var 92 457076457081)] 457068457082)] 0 457035457083) 457008457083),
  (.ifs (.bop false [(.bop true [(.cmp .Is (.var 111 458011458015) (.const .none 458019458023) 458011458023),(.cmp .Lt (.call (.glob 16 458028458031) [(.var 43 458032458036)] 458028458037) (.call (.glob 16 458040458043) [(.var 136 458044458050)] 458040458051) 458028458051)] 458011458051),(.bop true [(.cmp .Is (.var 5 458056458060) (.const .none 458064458068) 458056458068),(.cmp .Lt (.call (.glob 16 458073458076) [(.var 136 458077458083)] 458073458084) (.call (.glob 16 458087458090) [(.var 43 458091458095)] 458087458096) 458073458096)] 458056458096)] 458011458097) [(.ret (.tup [(.glob 13 459020459026),(.var 121 459028459032)] 0 459019459033) 459012459033)] [] 458008459033),
  (.asg (.tup [(.var 7 460008460013),(.var 9 460015460019)] 0 460008460019) (.tup [(.mk (.lst [] 460023460025)),(.var 121 460027460031)] 0 460022460032) 460008460032),
  (.fors (.var 114 461012461014) (.call (.glob 113 461018461023) [(.call (.glob 137 461024461027) [(.call (.glob 16 461028461031) [(.var 43 461032461036)] 461028461037),(.call (.glob 16 461039461042) [(.var 136 461043461049)] 461039461050)] 461024461051)] 461018461052) [(.asg (.var 6 462012462016) (.ite (.cmp .Lt (.var 114 462031462033) (.call (.glob 16 462036462039) [(.var 43 462040462044)] 462036462045) 462031462045) (.sub (.var 43 462019462023) (.var 114 462024462026) 462019462027) (.var 111 462051462055) 462019462055) 462012462055),
  (.asg (.var 138 463012463017) (.ite (.cmp .Lt (.var 114 463034463036) (.call (.glob 16 463039463042) [(.var 136 463043463049)] 463039463050) 463034463050) (.sub (.var 136 463020463026) (.var 114 463027463029) 463020463030) (.var 5 463056463060) 463020463060) 463012463060),
  (.asg (.tup [(.var 20 464012464016),(.var 9 464018464022)] 0 464012464022) (.meth (.var 57 464025464029) 130 [(.var 6 464035464039),(.var 138 464041464046),(.var 9 464048464052)] 464025464034 464025464053) 464012464053),
  (.ifs (.call (.glob 80 465015465023) [(.var 20 465024465028)] 465015465029) [(.ret (.tup [(.glob 13 466024466030),(.var 121 466032466036)] 0 466023466037) 466016466037)] [] 465012466037),
  (.exp (.meth (.var 7 467012467017) 14 [(.var 20 467025467029)] 467012467024 467012467030) 467012467030)] 461008467030),
  (.ifs (.bop false [(.cmp .Is (.var 111 468011468015) (.const .none 468019468023) 468011468023),(.cmp .Is (.var 5 468027468031) (.const .none 468035468039) 468027468039)] 468011468039) [(.ret (.tup [(.call (.glob 79 469020469028) [(.var 7 469029469034)] 469020469035),(.var 9 469037469041)] 0 469019469042) 469012469042)] [] 468008469042),
  (.asg (.tup [(.var 20 470008470012),(.var 129 470014470018)] 0 470008470018) (.meth (.var 57 470021470025) 130 [(.var 111 470031470035),(.var 5 470037470041),(.var 9 470043470047)] 470021470030 470021470048) 470008470048),
  (.ret (.ite (.call (.glob 80 471042471050) [(.var 20 471051471055)] 471042471056) (.tup [(.call (.glob 79 471016471024) [(.var 7 471025471030)] 471016471031),(.var 9 471033471037)] 0 471015471038) (.tup [(.call (.glob 79 471063471071) [(.var 7 471072471077),(.meth (.var 57 471079471083) 85 [(.var 20 471092471096),(.var 129 471098471102)] 471079471091 471079471103)] 471063471104),(.var 9 471106471110)] 0 471062471111) 471015471111) 471008471111)]
noncomputable def f_Meeting_meet_tuples:FnI:=⟨[57,44,92,121],[],[(57,.local),(44,.local),(92,.local),(121,.local),(43,.local),(136,.local),(111,.local),(5,.local),(7,.local),(9,.local),(114,.local),(6,.local),(138,.local),(20,.local),(129,.local),(112,.globalImplicit),(16,.globalImplicit),(13,.globalImplicit),(113,.globalImplicit),(137,.globalImplicit),(80,.globalImplicit),(79,.globalImplicit)],b_Meeting_meet_tuples,false⟩
noncomputable def b_Meeting_meet_names:List MS:=[
  (.fors (.tup [(.var 9 474012474016),(.var 135 474018474023)] 0 474012474023) (.tup [(.tup [(.var 44 474029474032),(.var 92 474034474039)] 0 474028474040),(.tup [(.var 92 474043474048),(.var 44 474050474053)] 0 474042474054)] 0 474027474055) [(.fors (.var 97 475016475021) (.meth (.attr (.var 57 475025475029) 4 475025475035) 107 [(.var 9 475043475047)] 475025475042 475025475048) [(.ifs (.cmp .Eq (.sub (.var 97 476019476024) (.const (.int 1) 476025476026) 476019476027) (.sub (.var 135 476031476036) (.const (.int 1) 476037476038) 476031476039) 476019476039) [(.ret (.meth (.var 57 477027477031) 139 [(.var 9 477043477047),(.var 97 477049477054),(.var 135 477056477061),(.var 121 477063477067)] 477027477042 477027477068) 477020477068)] [] 476016477068)] 475012477068)] 474008477068),
  (.ret (.tup [(.glob 13 478016478022),(.var 121 478024478028)] 0 478015478029) 478008478029)]
noncomputable def f_Meeting_meet_names:FnI:=⟨[57,44,92,121],[],[(57,.local),(44,.local),(92,.local),(121,.local),(9,.local),(135,.local),(97,.local),(13,.globalImplicit)],b_Meeting_meet_names,false⟩
noncomputable def b_intersection:List MS:=[
  (.asg (.var 140 547004547011) (.call (.glob 141 547014547021) [(.var 4 547022547027),(.bin .Add (.call (.glob 142 547029547041) [(.var 44 547042547045)] 547029547046) (.call (.glob 142 547049547061) [(.var 92 547062547067)] 547049547068) 547029547068)] 547014547069) 547004547069),
  (.asg (.tup [(.var 20 548004548008),(.var 121 548010548014)] 0 548004548014) (.meth (.var 140 548017548024) 130 [(.var 44 548030548033),(.var 92 548035548040),(.dct [] [] 548042548044)] 548017548029 548017548045) 548004548045),
  (.asg (.var 20 549004549008) (.meth (.var 140 549011549018) 85 [(.var 20 549027549031),(.var 121 549033549037)] 549011549026 549011549038) 549004549038),
  (.ret (.ite (.call (.glob 80 550021550029) [(.var 20 550030550034)] 550021550035) (.glob 13 550011550017) (.var 20 550041550045) 550011550045) 550004550045)]
noncomputable def f_intersection:FnI:=⟨[4,44,92],[],[(4,.local),(44,.local),(92,.local),(140,.local),(20,.local),(121,.local),(141,.globalImplicit),(142,.globalImplicit),(80,.globalImplicit),(13,.globalImplicit)],b_intersection,true⟩
noncomputable def b_binders_many:List MS:=[
  (.ret (.call (.glob 16 553011553014) [(.sub (.call (.glob 99 553015553021) [(.var 143 553022553025)] 553015553026) (.const (.int 0) 553027553028) 553015553029)] 553011553030) 553004553030)]
noncomputable def f_binders_many:FnI:=⟨[143],[],[(143,.local),(16,.globalImplicit),(99,.globalImplicit)],b_binders_many,true⟩
noncomputable def b_is_more_specific:List MS:=[
  (.ifs (.not (.call (.glob 118 555011555021) [(.var 4 555022555027),(.var 44 555029555032),(.var 92 555034555039)] 555011555040) 555007555040) [(.ret (.const (.bool false) 556015556020) 556008556020)] [] 555004556020),
  (.ifs (.not (.call (.glob 118 557011557021) [(.var 4 557022557027),(.var 92 557029557034),(.var 44 557036557039)] 557011557040) 557007557040) [(.ret (.const (.bool true) 558015558019) 558008558019)] [] 557004558019),
  (.ret (.cmp .Lt (.call (.glob 144 559011559023) [(.var 44 559024559027)] 559011559028) (.call (.glob 144 559031559043) [(.var 92 559044559049)] 559031559050) 559011559050) 559004559050)]
noncomputable def f_is_more_specific:FnI:=⟨[4,44,92],[],[(4,.local),(44,.local),(92,.local),(118,.globalImplicit),(144,.globalImplicit)],b_is_more_specific,true⟩
noncomputable def b_is_ahead_of_all:List MS:=[
  (.fors (.var 146 561008561012) (.call (.glob 113 561016561021) [(.call (.glob 16 561022561025) [(.var 145 561026561030)] 561022561031)] 561016561032) [(.ifs (.bop true [(.cmp .NotEq (.var 146 562011562015) (.var 114 562019562021) 562011562021),(.not (.call (.glob 147 562031562047) [(.var 4 562048562053),(.sub (.var 145 562055562059) (.var 114 562060562062) 562055562063),(.sub (.var 145 562065562069) (.var 146 562070562074) 562065562075)] 562031562076) 562027562076)] 562011562077) [(.ret (.const (.bool false) 563019563024) 563012563024)] [] 562008563024)] 561004563024),
  (.ret (.const (.bool true) 564011564015) 564004564015)]
noncomputable def f_is_ahead_of_all:FnI:=⟨[4,145,114],[],[(4,.local),(145,.local),(114,.local),(146,.local),(113,.globalImplicit),(16,.globalImplicit),(147,.globalImplicit)],b_is_ahead_of_all,true⟩
noncomputable def b_best_of:List MS:=[
  (.ifs (.cmp .Eq (.var 145 566007566011) (.lst [] 566015566017) 566007566017) [(.ret (.const .none 567015567019) 567008567019)] [] 566004567019),
  (.asg (.var 148 568004568008) (.const (.int 0) 568011568012) 568004568012),
  (.fors (.var 114 569008569010) (.call (.glob 113 569014569019) [(.const (.int 1) 569020569021),(.call (.glob 16 569023569026) [(.var 145 569027569031)] 569023569032)] 569014569033) [(.ifs (.not (.call (.glob 147 570015570031) [(.var 4 570032570037),(.sub (.var 145 570039570043) (.var 148 570044570048) 570039570049),(.sub (.var 145 570051570055) (.var 114 570056570058) 570051570059)] 570015570060) 570011570060) [(.asg (.var 148 571012571016) (.var 114 571019571021) 571012571021)] [] 570008571021)] 569004571021),
  (.ret (.ite (.call (.glob 149 572019572034) [(.var 4 572035572040),(.var 145 572042572046),(.var 148 572048572052)] 572019572053) (.var 148 572011572015) (.const .none 572059572063) 572011572063) 572004572063)]
noncomputable def f_best_of:FnI:=⟨[4,145],[],[(4,.local),(145,.local),(148,.local),(114,.local),(113,.globalImplicit),(16,.globalImplicit),(147,.globalImplicit),(149,.globalImplicit)],b_best_of,true⟩
noncomputable def b_is_settled_by:List MS:=[
  (.ifs (.not (.call (.glob 118 575011575021) [(.var 4 575022575027),(.var 151 575029575035),(.var 150 575037575042)] 575011575043) 575007575043) [(.ret (.const (.bool false) 576015576020) 576008576020)] [] 575004576020),
  (.ret (.bop true [(.call (.glob 147 577011577027) [(.var 4 577028577033),(.var 150 577035577040),(.var 44 577042577045)] 577011577046),(.call (.glob 147 577051577067) [(.var 4 577068577073),(.var 150 577075577080),(.var 92 577082577087)] 577051577088)] 577011577088) 577004577088)]
noncomputable def f_is_settled_by:FnI:=⟨[4,150,44,92,151],[],[(4,.local),(150,.local),(44,.local),(92,.local),(151,.local),(118,.globalImplicit),(147,.globalImplicit)],b_is_settled_by,true⟩
noncomputable def b_are_ambiguous:List MS:=[
  (.asg (.tup [(.var 44 579004579007),(.var 92 579009579014)] 0 579004579014) (.tup [(.sub (.var 145 579018579022) (.var 152 579023579028) 579018579029),(.sub (.var 145 579031579035) (.var 153 579036579042) 579031579043)] 0 579017579044) 579004579044),
  (.ifs (.bop false [(.call (.glob 147 580007580023) [(.var 4 580024580029),(.var 44 580031580034),(.var 92 580036580041)] 580007580042),(.call (.glob 147 580046580062) [(.var 4 580063580068),(.var 92 580070580075),(.var 44 580077580080)] 580046580081),(.call (.glob 154 580085580094) [(.var 4 580095580100),(.var 44 580102580105),(.var 92 580107580112)] 580085580113)] 580007580113) [(.ret (.const (.bool false) 581015581020) 581008581020)] [] 580004581020),
  (.asg (.var 151 582004582010) (.call (.glob 155 582013582025) [(.var 4 582026582031),(.var 44 582033582036),(.var 92 582038582043)] 582013582044) 582004582044),
  (.ifs (.cmp .Eq (.var 151 583007583013) (.glob 13 583017583023) 583007583023) [(.ret (.const (.bool false) 584015584020) 584008584020)] [] 583004584020),
  (.fors (.var 114 585008585010) (.call (.glob 113 585014585019) [(.call (.glob 16 585020585023) [(.var 145 585024585028)] 585020585029)] 585014585030) [(.ifs (.bop true [(.cmp .NotIn (.var 114 586011586013) (.tup [(.var 152 586022586027),(.var 153 586029586035)] 0 586021586036) 586011586036),(.call (.glob 156 586041586054) [(.var 4 586055586060),(.sub (.var 145 586062586066) (.var 114 586067586069) 586062586070),(.var 44 586072586075),(.var 92 586077586082),(.var 151 586084586090)] 586041586091)] 586011586091) [(.ret (.const (.bool false) 587019587024) 587012587024)] [] 586008587024)] 585004587024),
  (.ret (.const (.bool true) 588011588015) 588004588015)]
noncomputable def f_are_ambiguous:FnI:=⟨[4,145,152,153],[],[(4,.local),(145,.local),(152,.local),(153,.local),(44,.local),(92,.local),(151,.local),(114,.local),(147,.globalImplicit),(154,.globalImplicit),(155,.globalImplicit),(13,.globalImplicit),(113,.globalImplicit),(16,.globalImplicit),(156,.globalImplicit)],b_are_ambiguous,true⟩
noncomputable def b_ambiguous_pairs:List MS:=[
  (.asg (.var 7 590004590009) (.mk (.lst [] 590012590014)) 590004590014),
  (.fors (.var 152 591008591013) (.call (.glob 113 591017591022) [(.call (.glob 16 591023591026) [(.var 145 591027591031)] 591023591032)] 591017591033) [(.fors (.var 153 592012592018) (.call (.glob 113 592022592027) [(.bin .Add (.var 152 592028592033) (.const (.int 1) 592036592037) 592028592037),(.call (.glob 16 592039592042) [(.var 145 592043592047)] 592039592048)] 592022592049) [(.ifs (.call (.glob 157 593015593028) [(.var 4 593029593034),(.var 145 593036593040),(.var 152 593042593047),(.var 153 593049593055)] 593015593056) [(.exp (.meth (.var 7 594016594021) 14 [(.tup [(.var 152 594030594035),(.var 153 594037594043)] 0 594029594044)] 594016594028 594016594045) 594016594045)] [] 593012594045)] 592008594045)] 591004594045),
  (.ret (.var 7 595011595016) 595004595016)]
noncomputable def f_ambiguous_pairs:FnI:=⟨[4,145],[],[(4,.local),(145,.local),(7,.local),(152,.local),(153,.local),(113,.globalImplicit),(16,.globalImplicit),(157,.globalImplicit)],b_ambiguous_pairs,true⟩
noncomputable def b_fitting:List MS:=[
  (.ret (.comp (.var 114 597012597014) [(.gen (.var 114 597019597021) (.call (.glob 113 597025597030) [(.call (.glob 16 597031597034) [(.var 145 597035597039)] 597031597040)] 597025597041) [(.call (.glob 118 597045597055) [(.var 4 597056597061),(.var 158 597063597068),(.sub (.var 145 597070597074) (.var 114 597075597077) 597070597078)] 597045597079)])] [(0,.local),(114,.local),(118,.globalImplicit),(158,.free),(4,.free),(145,.free)] 597011597080) 597004597080)]
noncomputable def f_fitting:FnI:=⟨[4,145,158],[],[(4,.cell),(145,.cell),(158,.cell),(113,.globalImplicit),(16,.globalImplicit)],b_fitting,true⟩
noncomputable def b_is_left_open:List MS:=[
  (.asg (.var 43 599004599008) (.comp (.sub (.var 145 599012599016) (.var 114 599017599019) 599012599020) [(.gen (.var 114 599025599027) (.call (.glob 159 599031599038) [(.var 4 599039599044),(.var 145 599046599050),(.var 158 599052599057)] 599031599058) [])] [(0,.local),(114,.local),(145,.free)] 599011599059) 599004599059),
  (.ret (.bop true [(.cmp .NotEq (.var 43 600011600015) (.lst [] 600019600021) 600011600021),(.cmp .Is (.call (.glob 160 600026600033) [(.var 4 600034600039),(.var 43 600041600045)] 600026600046) (.const .none 600050600054) 600026600054)] 600011600054) 600004600054)]
noncomputable def f_is_left_open:FnI:=⟨[4,145,158],[],[(4,.local),(145,.cell),(158,.local),(43,.local),(159,.globalImplicit),(160,.globalImplicit)],b_is_left_open,true⟩
noncomputable def b_ambiguity_text:List MS:=[
  (.asg (.var 58 602004602008) (.mk (.lst [] 602011602013)) 602004602013),
  (.fors (.tup [(.var 152 603008603013),(.var 153 603015603021)] 0 603008603021) (.call (.glob 161 603025603040) [(.var 4 603041603046),(.var 145 603048603052)] 603025603053) [(.asg (.var 151 604008604014) (.call (.glob 19 604017604026) [(.call (.glob 155 604027604039) [(.var 4 604040604045),(.sub (.var 145 604047604051) (.var 152 604052604057) 604047604058),(.sub (.var 145 604060604064) (.var 153 604065604071) 604060604072)] 604027604073)] 604017604074) 604008604074),
  (.exp (.meth (.var 58 605008605012) 14 [(.bin .Add (.bin .Add (.bin .Add (.bin .Add (.call (.glob 19 605020605029) [(.sub (.var 145 605030605034) (.var 152 605035605040) 605030605041)] 605020605042) (.const (.str 162) 605045605052) 605020605052) (.call (.glob 19 605055605064) [(.sub (.var 145 605065605069) (.var 153 605070605076) 605065605077)] 605055605078) 605020605078) (.const (.str 163) 605081605097) 605020605097) (.var 151 605100605106) 605020605106)] 605008605019 605008605107) 605008605107)] 603004605107),
  (.ret (.meth (.const (.str 164) 606011606015) 38 [(.var 58 606021606025)] 606011606020 606011606026) 606004606026)]
noncomputable def f_ambiguity_text:FnI:=⟨[4,145],[],[(4,.local),(145,.local),(58,.local),(152,.local),(153,.local),(151,.local),(161,.globalImplicit),(19,.globalImplicit),(155,.globalImplicit)],b_ambiguity_text,true⟩
noncomputable def b_Decl___init__:List MS:=[
  (.asg (.attr (.var 57 625008625012) 1 625008625017) (.var 1 625020625024) 625008625024),
  (.asg (.attr (.var 57 626008626012) 2 626008626019) (.call (.glob 8 626022626026) [(.var 2 626027626033)] 626022626034) 626008626034),
  (.asg (.attr (.var 57 627008627012) 168 627008627018) (.var 97 627021627026) 627008627026),
  (.asg (.attr (.var 57 628008628012) 165 628008628024) (.var 165 628027628038) 628008628038),
  (.asg (.attr (.var 57 629008629012) 166 629008629023) (.var 166 629026629036) 629008629036),
  (.asg (.attr (.var 57 630008630012) 167 630008630019) (.call (.glob 8 630022630026) [(.var 167 630027630033)] 630022630034) 630008630034)]
noncomputable def f_Decl___init__:FnI:=⟨[57,1,2,97,165,166,167],[.bool false,.tup []],[(57,.local),(1,.local),(2,.local),(97,.local),(165,.local),(166,.local),(167,.local),(8,.globalImplicit)],b_Decl___init__,false⟩
noncomputable def b_Decl_table_for:List MS:=[
  (.ret (.call (.glob 28 633015633019) [(.comp (.tup [(.sub (.var 78 633022633025) (.const (.int 0) 633026633027) 633022633028),(.var 39 633030633035)] 0 633021633036) [(.gen (.tup [(.var 78 633041633044),(.var 39 633046633051)] 0 633041633051) (.call (.glob 108 633055633058) [(.attr (.var 57 633059633063) 2 633059633070),(.var 2 633072633078)] 633055633079) [])] [(0,.local),(78,.local),(39,.local)] 633020633080)] 633015633081) 633008633081)]
noncomputable def f_Decl_table_for:FnI:=⟨[57,2],[],[(57,.local),(2,.local),(28,.globalImplicit),(108,.globalImplicit)],b_Decl_table_for,false⟩
noncomputable def b_Kinds___init__:List MS:=[
  (.asg (.attr (.var 57 643008643012) 169 643008643018) (.dct [(.const (.str 170) 643022643027)] [(.call (.glob 171 643029643033) [(.const (.str 170) 643034643039),(.lst [] 643041643043),(.const .none 643045643049),(.const (.bool true) 643051643055)] 643029643056)] 643021643057) 643008643057)]
noncomputable def f_Kinds___init__:FnI:=⟨[57],[],[(57,.local),(171,.globalImplicit)],b_Kinds___init__,false⟩
noncomputable def b_Kinds_declare:List MS:=[
  (.ifs (.cmp .In (.attr (.var 172 646011646015) 1 646011646020) (.attr (.var 57 646024646028) 169 646024646034) 646011646034) [(.rais (.call (.glob 173 647018647027) [(.bin .Add (.const (.str 174) 647028647052) (.attr (.var 172 647055647059) 1 647055647064) 647028647064)] 647018647065) 647012647065)] [] 646008647065),
  (.asg (.var 97 648008648013) (.attr (.var 172 648016648020) 168 648016648026) 648008648026),
  (.ifs (.bop false [(.cmp .NotEq (.sub (.var 97 649011649016) (.const (.int 0) 649017649018) 649011649019) (.const (.str 1) 649023649029) 649011649029),(.cmp .NotIn (.sub (.var 97 649033649038) (.const (.int 1) 649039649040) 649033649041) (.attr (.var 57 649049649053) 169 649049649059) 649033649059),(.not (.attr (.sub (.attr (.var 57 649068649072) 169 649068649078) (.sub (.var 97 649079649084) (.const (.int 1) 649085649086) 649079649087) 649068649088) 165 649068649100) 649064649100)] 649011649101) [(.rais (.call (.glob 173 650018650027) [(.bin .Add (.const (.str 175) 650028650060) (.call (.glob 19 650063650072) [(.var 97 650073650078)] 650063650079) 650028650079)] 650018650080) 650012650080)] [] 649008650080),
  (.ifs (.bop false [(.cmp .Eq (.var 97 651011651016) (.glob 105 651020651024) 651011651024),(.cmp .NotEq (.call (.glob 16 651028651031) [(.sub (.var 97 651032651037) (.const (.int 2) 651038651039) 651032651040)] 651028651041) (.call (.glob 16 651045651048) [(.attr (.sub (.attr (.var 57 651049651053) 169 651049651059) (.sub (.var 97 651060651065) (.const (.int 1) 651066651067) 651060651068) 651049651069) 2 651049651076)] 651045651077) 651028651077)] 651011651077) [(.rais (.call (.glob 173 652018652027) [(.bin .Add (.const (.str 175) 652028652060) (.call (.glob 19 652063652072) [(.var 97 652073652078)] 652063652079) 652028652079)] 652018652080) 652012652080)] [] 651008652080),
  (.asg (.var 176 653008653011) (.comp (.sub (.var 78 653015653018) (.const (.int 0) 653019653020) 653015653021) [(.gen (.var 78 653026653029) (.attr (.var 172 653033653037) 2 653033653044) [])] [(0,.local),(78,.local)] 653014653045) 653008653045),
  (.asg (.var 177 654008654012) (.comp (.var 1 654016654020) [(.gen (.var 1 654025654029) (.call (.glob 120 654033654042) [(.var 97 654043654048)] 654033654049) [(.cmp .NotIn (.var 1 654053654057) (.var 176 654065654068) 654053654068)])] [(0,.local),(1,.local),(176,.free)] 654015654069) 654008654069),
  (.fors (.tup [(.var 1 655012655016),(.var 20 655018655022)] 0 655012655022) (.attr (.var 172 655026655030) 167 655026655037) [(.asg (.var 177 656012656016) (.bin .Add (.var 177 656019656023) (.comp (.var 44 656027656030) [(.gen (.var 44 656035656038) (.call (.glob 120 656042656051) [(.var 20 656052656056)] 656042656057) [(.cmp .NotIn (.var 44 656061656064) (.var 176 656072656075) 656061656075)])] [(0,.local),(44,.local),(176,.free)] 656026656076) 656019656076) 656012656076)] 655008656076),
  (.ifs (.bop false [(.cmp .NotEq (.var 177 657011657015) (.lst [] 657019657021) 657011657021),(.cmp .NotEq (.call (.glob 16 657025657028) [(.call (.glob 28 657029657033) [(.attr (.var 172 657034657038) 167 657034657045)] 657029657046)] 657025657047) (.call (.glob 16 657051657054) [(.attr (.var 172 657055657059) 167 657055657066)] 657051657067) 657025657067)] 657011657067) [(.rais (.call (.glob 173 658018658027) [(.bin .Add (.const (.str 178) 658028658079) (.attr (.var 172 658082658086) 1 658082658091) 658028658091)] 658018658092) 658012658092)] [] 657008658092),
  (.asg (.sub (.attr (.var 57 659008659012) 169 659008659018) (.attr (.var 172 659019659023) 1 659019659028) 659008659029) (.var 172 659032659036) 659008659036)]
noncomputable def f_Kinds_declare:FnI:=⟨[57,172],[],[(57,.local),(172,.local),(97,.local),(176,.cell),(1,.local),(177,.local),(20,.local),(173,.globalImplicit),(19,.globalImplicit),(105,.globalImplicit),(16,.globalImplicit),(120,.globalImplicit),(28,.globalImplicit)],b_Kinds_declare,false⟩
noncomputable def b_Kinds_decl:List MS:=[
  (.ifs (.cmp .NotIn (.var 1 665011665015) (.attr (.var 57 665023665027) 169 665023665033) 665011665033) [(.rais (.call (.glob 173 666018666027) [(.bin .Add (.const (.str 179) 666028666044) (.var 1 666047666051) 666028666051)] 666018666052) 666012666052)] [] 665008666052),
  (.ret (.sub (.attr (.var 57 667015667019) 169 667015667025) (.var 1 667026667030) 667015667031) 667008667031)]
noncomputable def f_Kinds_decl:FnI:=⟨[57,1],[],[(57,.local),(1,.local),(173,.globalImplicit)],b_Kinds_decl,true⟩
noncomputable def b_Kinds_super_of:List MS:=[
  (.ifs (.cmp .Eq (.sub (.var 20 670011670015) (.const (.int 0) 670016670017) 670011670018) (.const (.str 23) 670022670030) 670011670030) [(.ret (.glob 105 671019671023) 671012671023)] [] 670008671023),
  (.ifs (.cmp .Eq (.sub (.var 20 672011672015) (.const (.int 0) 672016672017) 672011672018) (.const (.str 51) 672022672026) 672011672026) [(.ret (.glob 106 673019673027) 673012673027)] [] 672008673027),
  (.ifs (.bop false [(.cmp .NotEq (.sub (.var 20 674011674015) (.const (.int 0) 674016674017) 674011674018) (.const (.str 1) 674022674028) 674011674028),(.cmp .Eq (.var 20 674032674036) (.glob 15 674040674043) 674032674043)] 674011674043) [(.ret (.glob 15 675019675022) 675012675022)] [] 674008675022),
  (.asg (.var 172 676008676012) (.meth (.var 57 676015676019) 172 [(.sub (.var 20 676025676029) (.const (.int 1) 676030676031) 676025676032)] 676015676024 676015676033) 676008676033),
  (.ret (.call (.glob 30 677015677026) [(.attr (.var 172 677027677031) 168 677027677037),(.meth (.var 172 677039677043) 180 [(.sub (.var 20 677054677058) (.const (.int 2) 677059677060) 677054677061)] 677039677053 677039677062)] 677015677063) 677008677063)]
noncomputable def f_Kinds_super_of:FnI:=⟨[57,20],[],[(57,.local),(20,.local),(172,.local),(105,.globalImplicit),(106,.globalImplicit),(15,.globalImplicit),(30,.globalImplicit)],b_Kinds_super_of,true⟩
noncomputable def b_Kinds_supers:List MS:=[
  (.asg (.var 7 680008680013) (.mk (.lst [(.var 20 680017680021)] 680016680022)) 680008680022),
  (.whl (.cmp .NotEq (.sub (.var 7 681014681019) (.neg (.const (.int 1) 681021681022) 681020681022) 681014681023) (.glob 15 681027681030) 681014681030) [(.exp (.meth (.var 7 682012682017) 14 [(.meth (.var 57 682025682029) 181 [(.sub (.var 7 682039682044) (.neg (.const (.int 1) 682046682047) 682045682047) 682039682048)] 682025682038 682025682049)] 682012682024 682012682050) 682012682050)] 681008682050),
  (.ret (.var 7 683015683020) 683008683020)]
noncomputable def f_Kinds_supers:FnI:=⟨[57,20],[],[(57,.local),(20,.local),(7,.local),(15,.globalImplicit)],b_Kinds_supers,true⟩
noncomputable def b_nominal:List MS:=[
  (.exp (.meth (.var 4 718004718009) 182 [(.call (.glob 171 718018718022) [(.var 1 718023718027),(.lst [] 718029718031),(.var 97 718033718038),(.var 165 718040718051)] 718018718052)] 718004718017 718004718053) 718004718053)]
noncomputable def f_nominal:FnI:=⟨[4,1,97,165],[.bool false],[(4,.local),(1,.local),(97,.local),(165,.local),(171,.globalImplicit)],b_nominal,false⟩
noncomputable def b_start_kinds:List MS:=[
  (.asg (.var 4 720004720009) (.call (.glob 183 720012720017) [] 720012720019) 720004720019),
  (.fors (.var 1 721008721012) (.tup [(.const (.str 184) 721017721023),(.const (.str 185) 721025721035),(.const (.str 186) 721037721045),(.const (.str 187) 721047721061),(.const (.str 188) 721063721079),(.const (.str 189) 721081721092)] 0 721016721093) [(.exp (.call (.glob 103 722008722015) [(.var 4 722016722021),(.var 1 722023722027),(.glob 15 722029722032),(.const (.bool true) 722034722038)] 722008722039) 722008722039)] 721004722039),
  (.exp (.call (.glob 103 723004723011) [(.var 4 723012723017),(.const (.str 190) 723019723025),(.call (.glob 191 723027723032) [(.const (.str 186) 723033723041)] 723027723042),(.const (.bool true) 723044723048)] 723004723049) 723004723049),
  (.exp (.call (.glob 103 724004724011) [(.var 4 724012724017),(.const (.str 192) 724019724028),(.call (.glob 191 724030724035) [(.const (.str 190) 724036724042)] 724030724043),(.const (.bool true) 724045724049)] 724004724050) 724004724050),
  (.exp (.call (.glob 103 725004725011) [(.var 4 725012725017),(.const (.str 193) 725019725027),(.call (.glob 191 725029725034) [(.const (.str 192) 725035725044)] 725029725045),(.const (.bool true) 725047725051)] 725004725052) 725004725052),
  (.exp (.call (.glob 103 726004726011) [(.var 4 726012726017),(.const (.str 194) 726019726029),(.call (.glob 191 726031726036) [(.const (.str 192) 726037726046)] 726031726047),(.const (.bool true) 726049726053)] 726004726054) 726004726054),
  (.fors (.var 1 727008727012) (.glob 195 727016727022) [(.exp (.call (.glob 103 728008728015) [(.var 4 728016728021),(.var 1 728023728027),(.call (.glob 191 728029728034) [(.const (.str 193) 728035728043)] 728029728044)] 728008728045) 728008728045)] 727004728045),
  (.fors (.var 1 729008729012) (.glob 196 729016729024) [(.exp (.call (.glob 103 730008730015) [(.var 4 730016730021),(.var 1 730023730027),(.call (.glob 191 730029730034) [(.const (.str 194) 730035730045)] 730029730046)] 730008730047) 730008730047)] 729004730047),
  (.fors (.tup [(.var 1 731008731012),(.var 97 731014731019)] 0 731008731019) (.tup [(.tup [(.const (.str 197) 731025731031),(.const (.str 192) 731033731042)] 0 731024731043),(.tup [(.const (.str 198) 731046731052),(.const (.str 187) 731054731068)] 0 731045731069),(.tup [(.const (.str 199) 731072731080),(.const (.str 188) 731082731098)] 0 731071731099)] 0 731023731100) [(.exp (.call (.glob 103 732008732015) [(.var 4 732016732021),(.var 1 732023732027),(.call (.glob 191 732029732034) [(.var 97 732035732040)] 732029732041)] 732008732042) 732008732042)] 731004732042),
  (.exp (.call (.glob 103 733004733011) [(.var 4 733012733017),(.const (.str 200) 733019733027),(.glob 15 733029733032)] 733004733033) 733004733033),
  (.exp (.call (.glob 103 734004734011) [(.var 4 734012734017),(.const (.str 201) 734019734028),(.glob 15 734030734033)] 734004734034) 734004734034),
  (.exp (.meth (.var 4 735004735009) 182 [(.call (.glob 171 735018735022) [(.const (.str 202) 735023735029),(.lst [] 735031735033),(.glob 15 735035735038),(.const (.bool false) 735040735045),(.const (.bool true) 735047735051),(.lst [(.tup [(.const (.str 203) 735055735061),(.call (.glob 191 735063735068) [(.const (.str 200) 735069735077)] 735063735078)] 0 735054735079),(.tup [(.const (.str 204) 735082735088),(.glob 15 735090735093)] 0 735081735094)] 735053735095)] 735018735096)] 735004735017 735004735097) 735004735097),
  (.exp (.call (.glob 205 736004736016) [(.var 4 736017736022)] 736004736023) 736004736023),
  (.exp (.call (.glob 206 737004737014) [(.var 4 737015737020)] 737004737021) 737004737021),
  (.ret (.var 4 738011738016) 738004738016)]
noncomputable def f_start_kinds:FnI:=⟨[],[],[(4,.local),(1,.local),(97,.local),(183,.globalImplicit),(103,.globalImplicit),(15,.globalImplicit),(191,.globalImplicit),(195,.globalImplicit),(196,.globalImplicit),(171,.globalImplicit),(205,.globalImplicit),(206,.globalImplicit)],b_start_kinds,false⟩
noncomputable def b_start_errors:List MS:=[
  (.asg (.var 97 740004740009) (.call (.glob 191 740012740017) [(.const (.str 189) 740018740029)] 740012740030) 740004740030),
  (.fors (.var 1 741008741012) (.glob 207 741016741028) [(.exp (.call (.glob 103 742008742015) [(.var 4 742016742021),(.var 1 742023742027),(.var 97 742029742034)] 742008742035) 742008742035)] 741004742035),
  (.fors (.var 1 743008743012) (.glob 208 743016743027) [(.exp (.meth (.var 4 744008744013) 182 [(.call (.glob 171 744022744026) [(.var 1 744027744031),(.lst [] 744033744035),(.var 97 744037744042),(.const (.bool false) 744044744049),(.const (.bool false) 744051744056),(.lst [(.tup [(.const (.str 209) 744060744065),(.glob 15 744067744070)] 0 744059744071)] 744058744072)] 744022744073)] 744008744021 744008744074) 744008744074)] 743004744074),
  (.fors (.var 1 745008745012) (.glob 210 745016745027) [(.exp (.meth (.var 4 746008746013) 182 [(.call (.glob 171 746022746026) [(.var 1 746027746031),(.lst [] 746033746035),(.var 97 746037746042),(.const (.bool false) 746044746049),(.const (.bool false) 746051746056),(.lst [(.tup [(.const (.str 211) 746060746063),(.glob 15 746065746068)] 0 746059746069),(.tup [(.const (.str 204) 746072746078),(.glob 15 746080746083)] 0 746071746084)] 746058746085)] 746022746086)] 746008746021 746008746087) 746008746087)] 745004746087),
  (.exp (.meth (.var 4 747004747009) 182 [(.call (.glob 171 747018747022) [(.const (.str 212) 747023747038),(.lst [] 747040747042),(.var 97 747044747049),(.const (.bool false) 747051747056),(.const (.bool false) 747058747063),(.lst [(.tup [(.const (.str 25) 747067747072),(.glob 15 747074747077)] 0 747066747078)] 747065747079)] 747018747080)] 747004747017 747004747081) 747004747081),
  (.exp (.meth (.var 4 748004748009) 182 [(.call (.glob 171 748018748022) [(.const (.str 213) 748023748036),(.lst [] 748038748040),(.var 97 748042748047),(.const (.bool false) 748049748054),(.const (.bool false) 748056748061),(.lst [(.tup [(.const (.str 214) 748065748068),(.glob 15 748070748073)] 0 748064748074),(.tup [(.const (.str 215) 748077748080),(.glob 15 748082748085)] 0 748076748086)] 748063748087)] 748018748088)] 748004748017 748004748089) 748004748089)]
noncomputable def f_start_errors:FnI:=⟨[4],[],[(4,.local),(97,.local),(1,.local),(191,.globalImplicit),(207,.globalImplicit),(103,.globalImplicit),(208,.globalImplicit),(171,.globalImplicit),(15,.globalImplicit),(210,.globalImplicit)],b_start_errors,false⟩
noncomputable def b_start_rows:List MS:=[
  (.asg (.var 216 750004750012) (.lst [(.tup [(.const (.str 217) 750017750022),(.glob 13 750024750030),(.glob 15 750032750035)] 0 750016750036),(.tup [(.const (.str 218) 750039750044),(.glob 13 750046750052),(.glob 15 750054750057)] 0 750038750058)] 750015750059) 750004750059),
  (.asg (.tup [(.var 219 751004751008),(.var 220 751010751014)] 0 751004751014) (.tup [(.tup [(.const (.str 25) 751019751024),(.const (.str 217) 751026751031)] 0 751018751032),(.tup [(.const (.str 25) 751035751040),(.const (.str 218) 751042751047)] 0 751034751048)] 0 751017751049) 751004751049),
  (.exp (.meth (.var 4 752004752009) 182 [(.call (.glob 171 752018752022) [(.const (.str 221) 752023752038),(.var 216 752040752048),(.glob 15 752050752053),(.const (.bool true) 752055752059)] 752018752060)] 752004752017 752004752061) 752004752061),
  (.fors (.var 1 753008753012) (.tup [(.const (.str 222) 753017753024),(.const (.str 223) 753026753036)] 0 753016753037) [(.exp (.meth (.var 4 754008754013) 182 [(.call (.glob 171 754022754026) [(.var 1 754027754031),(.var 216 754033754041),(.call (.glob 191 754043754048) [(.const (.str 221) 754049754064),(.tup [(.var 219 754067754071),(.var 220 754073754077)] 0 754066754078)] 754043754079),(.const (.bool false) 754081754086),(.const (.bool true) 754088754092)] 754022754093)] 754008754021 754008754094) 754008754094)] 753004754094),
  (.asg (.var 44 755004755007) (.lst [(.tup [(.const (.str 217) 755012755017),(.glob 13 755019755025),(.glob 15 755027755030)] 0 755011755031)] 755010755032) 755004755032),
  (.exp (.meth (.var 4 756004756009) 182 [(.call (.glob 171 756018756022) [(.const (.str 224) 756023756038),(.var 44 756040756043),(.call (.glob 191 756045756050) [(.const (.str 221) 756051756066),(.tup [(.var 219 756069756073),(.tup [(.const (.str 54) 756076756079),(.const (.int 1) 756081756082)] 0 756075756083)] 0 756068756084)] 756045756085),(.const (.bool true) 756087756091)] 756018756092)] 756004756017 756004756093) 756004756093),
  (.asg (.var 97 757004757009) (.call (.glob 191 757012757017) [(.const (.str 224) 757018757033),(.tup [(.var 219 757036757040)] 0 757035757042)] 757012757043) 757004757043),
  (.exp (.meth (.var 4 758004758009) 182 [(.call (.glob 171 758018758022) [(.const (.str 225) 758023758034),(.var 44 758036758039),(.var 97 758041758046),(.const (.bool false) 758048758053),(.const (.bool false) 758055758060),(.lst [(.tup [(.const (.str 226) 758064758071),(.var 219 758073758077)] 0 758063758078),(.tup [(.const (.str 227) 758081758087),(.var 219 758089758093)] 0 758080758094)] 758062758095)] 758018758096)] 758004758017 758004758097) 758004758097),
  (.exp (.meth (.var 4 759004759009) 182 [(.call (.glob 171 759018759022) [(.const (.str 228) 759023759034),(.var 44 759036759039),(.var 97 759041759046),(.const (.bool false) 759048759053),(.const (.bool false) 759055759060),(.lst [(.tup [(.const (.str 226) 759064759071),(.var 219 759073759077)] 0 759063759078),(.tup [(.const (.str 87) 759081759087),(.var 219 759089759093)] 0 759080759094),(.tup [(.const (.str 227) 759097759103),(.var 219 759105759109)] 0 759096759110)] 759062759111)] 759018759112)] 759004759017 759004759113) 759004759113),
  (.exp (.meth (.var 4 760004760009) 182 [(.call (.glob 171 760018760022) [(.const (.str 229) 760023760028),(.var 44 760030760033),(.glob 15 760035760038),(.const (.bool false) 760040760045),(.const (.bool true) 760047760051),(.lst [(.tup [(.const (.str 230) 760055760058),(.var 219 760060760064)] 0 760054760065)] 760053760066)] 760018760067)] 760004760017 760004760068) 760004760068),
  (.asg (.var 231 761004761009) (.lst [(.tup [(.const (.str 217) 761014761019),(.glob 13 761021761027),(.call (.glob 191 761029761034) [(.const (.str 192) 761035761044)] 761029761045)] 0 761013761046)] 761012761047) 761004761047),
  (.exp (.meth (.var 4 762004762009) 182 [(.call (.glob 171 762018762022) [(.const (.str 232) 762023762033),(.var 231 762035762040),(.call (.glob 191 762042762047) [(.const (.str 190) 762048762054)] 762042762055),(.const (.bool false) 762057762062),(.const (.bool false) 762064762069),(.lst [(.tup [(.const (.str 233) 762073762078),(.var 219 762080762084)] 0 762072762085),(.tup [(.const (.str 234) 762088762093),(.var 219 762095762099)] 0 762087762100)] 762071762101)] 762018762102)] 762004762017 762004762103) 762004762103)]
noncomputable def f_start_rows:FnI:=⟨[4],[],[(4,.local),(216,.local),(219,.local),(220,.local),(1,.local),(44,.local),(97,.local),(231,.local),(13,.globalImplicit),(15,.globalImplicit),(171,.globalImplicit),(191,.globalImplicit)],b_start_rows,false⟩
noncomputable def b__law_up:List MS:=[
  (.ret (.dct [(.const (.str 235) 765012765019),(.const (.str 193) 765031765039),(.const (.str 236) 765052765059),(.const (.str 194) 765073765083),(.const (.str 192) 765096765105),(.const (.str 190) 765115765121)] [(.const (.str 193) 765021765029),(.const (.str 192) 765041765050),(.const (.str 194) 765061765071),(.const (.str 192) 765085765094),(.const (.str 190) 765107765113),(.const (.str 186) 765123765131)] 765011765132) 765004765132)]
noncomputable def f__law_up:FnI:=⟨[],[],[],b__law_up,false⟩
noncomputable def b__law_silo:List MS:=[
  (.asg (.var 238 767004767008) (.ite (.cmp .Gt (.call (.glob 16 767029767032) [(.var 237 767033767039)] 767029767040) (.const (.int 0) 767043767044) 767029767044) (.call (.glob 239 767011767014) [(.sub (.var 237 767015767021) (.const (.int 0) 767022767023) 767015767024)] 767011767025) (.const (.int 0) 767050767051) 767011767051) 767004767051),
  (.asg (.var 240 768004768008) (.bin .Add (.bin .Mult (.const (.int 2) 768011768012) (.call (.glob 241 768015768018) [(.var 238 768019768023)] 768015768024) 768011768024) (.call (.glob 239 768027768030) [(.cmp .Lt (.var 238 768031768035) (.const (.int 0) 768038768039) 768031768039)] 768027768040) 768011768040) 768004768040),
  (.ret (.mk (.lst [(.ite (.cmp .Gt (.var 240 769020769024) (.bin .Mult (.const (.int 2) 769027769028) (.bin .Pow (.const (.int 10) 769031769033) (.const (.int 18) 769037769039) 769031769039) 769027769039) 769020769039) (.var 240 769012769016) (.const (.int 0) 769045769046) 769012769046),(.bin .Add (.bin .Mod (.var 240 769048769052) (.const (.int 2147483077) 769055769065) 769048769065) (.const (.int 53) 769068769070) 769048769070)] 769011769071)) 769004769071)]
noncomputable def f__law_silo:FnI:=⟨[237],[],[(237,.local),(238,.local),(240,.local),(16,.globalImplicit),(239,.globalImplicit),(241,.globalImplicit)],b__law_silo,false⟩
noncomputable def b__law_grain:List MS:=[
  (.ifs (.cmp .Gt (.sub (.var 242 771007771011) (.const (.int 0) 771012771013) 771007771014) (.const (.int 0) 771017771018) 771007771018) [(.asg (.var 243 772008772012) (.bin .Mod (.call (.glob 239 772015772018) [(.sub (.var 242 772019772023) (.const (.int 0) 772024772025) 772019772026)] 772015772027) (.var 59 772030772034) 772015772034) 772008772034),
  (.asg (.sub (.var 242 773008773012) (.const (.int 0) 773013773014) 773008773015) (.bin .FloorDiv (.sub (.var 242 773018773022) (.const (.int 0) 773023773024) 773018773025) (.var 59 773029773033) 773018773033) 773008773033),
  (.ret (.var 243 774015774019) 774008774019)] [] 771004774019),
  (.asg (.sub (.var 242 775004775008) (.const (.int 1) 775009775010) 775004775011) (.bin .Mod (.bin .Add (.bin .Mult (.call (.glob 239 775015775018) [(.sub (.var 242 775019775023) (.const (.int 1) 775024775025) 775019775026)] 775015775027) (.const (.int 69621) 775030775035) 775015775035) (.const (.int 19) 775038775040) 775015775040) (.const (.int 2147483077) 775044775054) 775014775054) 775004775054),
  (.ret (.bin .Mod (.bin .FloorDiv (.sub (.var 242 776011776015) (.const (.int 1) 776016776017) 776011776018) (.const (.int 43) 776022776024) 776011776024) (.var 59 776027776031) 776011776031) 776004776031)]
noncomputable def f__law_grain:FnI:=⟨[242,59],[],[(242,.local),(59,.local),(243,.local),(239,.globalImplicit)],b__law_grain,false⟩
noncomputable def b__law_chain:List MS:=[
  (.asg (.var 7 778004778009) (.mk (.lst [(.var 1 778013778017)] 778012778018)) 778004778018),
  (.whl (.cmp .In (.sub (.var 7 779010779015) (.neg (.const (.int 1) 779017779018) 779016779018) 779010779019) (.call (.glob 244 779023779030) [] 779023779032) 779010779032) [(.exp (.meth (.var 7 780008780013) 14 [(.sub (.call (.glob 244 780021780028) [] 780021780030) (.sub (.var 7 780031780036) (.neg (.const (.int 1) 780038780039) 780037780039) 780031780040) 780021780041)] 780008780020 780008780042) 780008780042)] 779004780042),
  (.ret (.bin .Add (.var 7 781011781016) (.ite (.cmp .Eq (.var 1 781026781030) (.const (.str 170) 781034781039) 781026781039) (.lst [] 781020781022) (.lst [(.const (.str 170) 781046781051)] 781045781052) 781020781052) 781011781053) 781004781053)]
noncomputable def f__law_chain:FnI:=⟨[1],[],[(1,.local),(7,.local),(244,.globalImplicit)],b__law_chain,true⟩
noncomputable def b__law_lot:List MS:=[
  (.asg (.var 43 783004783008) (.lst [(.const (.str 235) 783012783019),(.const (.str 193) 783021783029),(.const (.str 236) 783031783038),(.const (.str 194) 783040783050),(.const (.str 192) 783052783061),(.const (.str 190) 783063783069),(.const (.str 186) 783071783079),(.const (.str 170) 783081783086),(.const (.str 198) 783088783094),(.const (.str 199) 783096783104)] 783011783105) 783004783105),
  (.asg (.tup [(.var 44 784004784007),(.var 92 784009784014)] 0 784004784014) (.tup [(.sub (.var 43 784018784022) (.call (.glob 245 784023784033) [(.var 242 784034784038),(.const (.int 10) 784040784042)] 784023784043) 784018784044),(.sub (.var 43 784046784050) (.call (.glob 245 784051784061) [(.var 242 784062784066),(.const (.int 10) 784068784070)] 784051784071) 784046784072)] 0 784017784073) 784004784073),
  (.ifs (.bop false [(.cmp .Gt (.call (.glob 245 785007785017) [(.var 242 785018785022),(.const (.int 3) 785024785025)] 785007785026) (.const (.int 0) 785029785030) 785007785030),(.cmp .In (.var 44 785034785037) (.call (.glob 246 785041785051) [(.var 92 785052785057)] 785041785058) 785034785058),(.cmp .In (.var 92 785062785067) (.call (.glob 246 785071785081) [(.var 44 785082785085)] 785071785086) 785062785086)] 785007785086) [(.ret (.lst [(.var 44 786016786019)] 786015786020) 786008786020)] [] 785004786020),
  (.ret (.call (.glob 17 787011787017) [(.lst [(.var 44 787019787022),(.var 92 787024787029)] 787018787030)] 787011787031) 787004787031)]
noncomputable def f__law_lot:FnI:=⟨[242],[],[(242,.local),(43,.local),(44,.local),(92,.local),(245,.globalImplicit),(246,.globalImplicit),(17,.globalImplicit)],b__law_lot,false⟩
noncomputable def b__law_kind:List MS:=[
  (.asg (.var 7 789004789009) (.call (.glob 3 789012789017) [(.comp (.tup [(.const (.str 1) 789020789026),(.var 1 789028789032),(.tup [] 0 789034789036)] 0 789019789037) [(.gen (.var 1 789042789046) (.var 247 789050789055) [])] [(0,.local),(1,.local)] 789018789056)] 789012789057) 789004789057),
  (.ret (.ite (.cmp .Eq (.call (.glob 16 790023790026) [(.var 7 790027790032)] 790023790033) (.const (.int 1) 790037790038) 790023790038) (.sub (.var 7 790011790016) (.const (.int 0) 790017790018) 790011790019) (.tup [(.const (.str 11) 790045790052),(.var 7 790054790059)] 0 790044790060) 790011790060) 790004790060)]
noncomputable def f__law_kind:FnI:=⟨[247],[],[(247,.local),(7,.local),(3,.globalImplicit),(16,.globalImplicit)],b__law_kind,true⟩
noncomputable def b__law_sig:List MS:=[
  (.ret (.tup [(.const (.str 3) 792012792019),(.call (.glob 3 792021792026) [(.comp (.call (.glob 248 792028792037) [(.var 247 792038792043)] 792028792044) [(.gen (.var 247 792049792054) (.var 78 792058792061) [])] [(0,.local),(247,.local),(248,.globalImplicit)] 792027792062)] 792021792063),(.const .none 792065792069)] 0 792011792070) 792004792070)]
noncomputable def f__law_sig:FnI:=⟨[78],[],[(78,.local),(3,.globalImplicit)],b__law_sig,true⟩
noncomputable def b__law_under:List MS:=[
  (.ifs (.cmp .NotEq (.call (.glob 16 794007794010) [(.var 44 794011794014)] 794007794015) (.call (.glob 16 794019794022) [(.var 92 794023794028)] 794019794029) 794007794029) [(.ret (.const (.bool false) 795015795020) 795008795020)] [] 794004795020),
  (.fors (.tup [(.var 247 796008796013),(.var 82 796015796020)] 0 796008796020) (.call (.glob 108 796024796027) [(.var 44 796028796031),(.var 92 796033796038)] 796024796039) [(.ifs (.cmp .NotEq (.comp (.var 1 797012797016) [(.gen (.var 1 797021797025) (.var 247 797029797034) [(.cmp .Eq (.comp (.var 91 797039797043) [(.gen (.var 91 797048797052) (.var 82 797056797061) [(.cmp .In (.var 91 797065797069) (.call (.glob 246 797073797083) [(.var 1 797084797088)] 797073797089) 797065797089)])] [(0,.local),(91,.local),(246,.globalImplicit),(1,.free)] 797038797090) (.lst [] 797094797096) 797038797096)])] [(0,.local),(1,.cell),(82,.free)] 797011797097) (.lst [] 797101797103) 797011797103) [(.ret (.const (.bool false) 798019798024) 798012798024)] [] 797008798024)] 796004798024),
  (.ret (.const (.bool true) 799011799015) 799004799015)]
noncomputable def f__law_under:FnI:=⟨[44,92],[],[(44,.local),(92,.local),(247,.local),(82,.cell),(16,.globalImplicit),(108,.globalImplicit)],b__law_under,true⟩
noncomputable def b__law_ahead:List MS:=[
  (.ret (.bop true [(.call (.glob 249 801011801021) [(.var 44 801022801025),(.var 92 801027801032)] 801011801033),(.not (.call (.glob 249 801043801053) [(.var 92 801054801059),(.var 44 801061801064)] 801043801065) 801039801065)] 801011801066) 801004801066)]
noncomputable def f__law_ahead:FnI:=⟨[44,92],[],[(44,.local),(92,.local),(249,.globalImplicit)],b__law_ahead,true⟩
noncomputable def b__law_both:List MS:=[
  (.ifs (.cmp .NotEq (.call (.glob 16 803007803010) [(.var 44 803011803014)] 803007803015) (.call (.glob 16 803019803022) [(.var 92 803023803028)] 803019803029) 803007803029) [(.ret (.const .none 804015804019) 804008804019)] [] 803004804019),
  (.asg (.var 7 805004805009) (.mk (.lst [] 805012805014)) 805004805014),
  (.fors (.tup [(.var 247 806008806013),(.var 136 806015806021)] 0 806008806021) (.call (.glob 108 806025806028) [(.var 44 806029806032),(.var 92 806034806039)] 806025806040) [(.asg (.var 34 807008807012) (.comp (.var 1 807016807020) [(.gen (.var 1 807025807029) (.var 247 807033807038) [(.cmp .NotEq (.comp (.var 91 807043807047) [(.gen (.var 91 807052807056) (.var 136 807060807066) [(.cmp .In (.var 91 807070807074) (.call (.glob 246 807078807088) [(.var 1 807089807093)] 807078807094) 807070807094)])] [(0,.local),(91,.local),(246,.globalImplicit),(1,.free)] 807042807095) (.lst [] 807099807101) 807042807101)])] [(0,.local),(1,.cell),(136,.free)] 807015807102) 807008807102),
  (.asg (.var 34 808008808012) (.bin .Add (.var 34 808015808019) (.comp (.var 1 808023808027) [(.gen (.var 1 808032808036) (.var 136 808040808046) [(.bop true [(.cmp .NotIn (.var 1 808050808054) (.var 34 808062808066) 808050808066),(.cmp .NotEq (.comp (.var 91 808072808076) [(.gen (.var 91 808081808085) (.var 247 808089808094) [(.cmp .In (.var 91 808098808102) (.call (.glob 246 808106808116) [(.var 1 808117808121)] 808106808122) 808098808122)])] [(0,.local),(91,.local),(246,.globalImplicit),(1,.free)] 808071808123) (.lst [] 808127808129) 808071808129)] 808050808129)])] [(0,.local),(1,.cell),(247,.free),(34,.free)] 808022808130) 808015808130) 808008808130),
  (.ifs (.cmp .Eq (.var 34 809011809015) (.lst [] 809019809021) 809011809021) [(.ret (.const .none 810019810023) 810012810023)] [] 809008810023),
  (.exp (.meth (.var 7 811008811013) 14 [(.var 34 811021811025)] 811008811020 811008811026) 811008811026)] 806004811026),
  (.ret (.var 7 812011812016) 812004812016)]
noncomputable def f__law_both:FnI:=⟨[44,92],[],[(44,.local),(92,.local),(7,.local),(247,.cell),(136,.cell),(34,.cell),(16,.globalImplicit),(108,.globalImplicit)],b__law_both,true⟩
noncomputable def b__law_is_open:List MS:=[
  (.asg (.tup [(.var 44 814004814007),(.var 92 814009814014)] 0 814004814014) (.tup [(.sub (.var 58 814018814022) (.var 152 814023814028) 814018814029),(.sub (.var 58 814031814035) (.var 153 814036814042) 814031814043)] 0 814017814044) 814004814044),
  (.asg (.var 148 815004815008) (.call (.glob 250 815011815020) [(.var 44 815021815024),(.var 92 815026815031)] 815011815032) 815004815032),
  (.ifs (.bop false [(.cmp .Is (.var 148 816007816011) (.const .none 816015816019) 816007816019),(.call (.glob 249 816023816033) [(.var 44 816034816037),(.var 92 816039816044)] 816023816045),(.call (.glob 249 816049816059) [(.var 92 816060816065),(.var 44 816067816070)] 816049816071)] 816007816071) [(.ret (.const (.bool false) 817015817020) 817008817020)] [] 816004817020),
  (.fors (.tup [(.var 114 818008818010),(.var 150 818012818017)] 0 818008818017) (.call (.glob 251 818021818030) [(.var 58 818031818035)] 818021818036) [(.ifs (.bop true [(.cmp .NotIn (.var 114 819011819013) (.tup [(.var 152 819022819027),(.var 153 819029819035)] 0 819021819036) 819011819036),(.call (.glob 249 819041819051) [(.var 148 819052819056),(.var 150 819058819063)] 819041819064),(.call (.glob 252 819069819079) [(.var 150 819080819085),(.var 44 819087819090)] 819069819091),(.call (.glob 252 819096819106) [(.var 150 819107819112),(.var 92 819114819119)] 819096819120)] 819011819120) [(.ret (.const (.bool false) 820019820024) 820012820024)] [] 819008820024)] 818004820024),
  (.ret (.const (.bool true) 821011821015) 821004821015)]
noncomputable def f__law_is_open:FnI:=⟨[58,152,153],[],[(58,.local),(152,.local),(153,.local),(44,.local),(92,.local),(148,.local),(114,.local),(150,.local),(250,.globalImplicit),(249,.globalImplicit),(251,.globalImplicit),(252,.globalImplicit)],b__law_is_open,true⟩
noncomputable def b__law_pairs:List MS:=[
  (.ret (.comp (.tup [(.var 114 823013823015),(.var 146 823017823021)] 0 823012823022) [(.gen (.var 114 823027823029) (.call (.glob 113 823033823038) [(.call (.glob 16 823039823042) [(.var 58 823043823047)] 823039823048)] 823033823049) []),(.gen (.var 146 823054823058) (.call (.glob 113 823062823067) [(.bin .Add (.var 114 823068823070) (.const (.int 1) 823073823074) 823068823074),(.call (.glob 16 823076823079) [(.var 58 823080823084)] 823076823085)] 823062823086) [(.call (.glob 253 823090823102) [(.var 58 823103823107),(.var 114 823109823111),(.var 146 823113823117)] 823090823118)])] [(0,.local),(114,.local),(146,.local),(113,.globalImplicit),(16,.globalImplicit),(253,.globalImplicit),(58,.free)] 823011823119) 823004823119)]
noncomputable def f__law_pairs:FnI:=⟨[58],[],[(58,.cell),(113,.globalImplicit),(16,.globalImplicit)],b__law_pairs,true⟩
noncomputable def b__law_rows_right:List MS:=[
  (.asg (.tup [(.var 145 825004825008),(.var 254 825010825013)] 0 825004825013) (.tup [(.comp (.call (.glob 255 825018825026) [(.var 78 825027825030)] 825018825031) [(.gen (.var 78 825036825039) (.var 58 825043825047) [])] [(0,.local),(78,.local),(255,.globalImplicit)] 825017825048),(.call (.glob 256 825050825060) [(.var 58 825061825065)] 825050825066)] 0 825016825067) 825004825067),
  (.ifs (.cmp .NotEq (.call (.glob 161 826007826022) [(.var 4 826023826028),(.var 145 826030826034)] 826007826035) (.var 254 826039826042) 826007826042) [(.ret (.const (.bool false) 827015827020) 827008827020)] [] 826004827020),
  (.asg (.var 257 828004828008) (.call (.glob 258 828011828025) [(.var 4 828026828031),(.var 145 828033828037)] 828011828038) 828004828038),
  (.ret (.ite (.cmp .Eq (.var 254 829025829028) (.lst [] 829032829034) 829025829034) (.cmp .Eq (.var 257 829011829015) (.const (.str 42) 829019829021) 829011829021) (.cmp .Eq (.call (.glob 16 829040829043) [(.meth (.var 257 829044829048) 66 [(.const (.str 164) 829055829059)] 829044829054 829044829060)] 829040829061) (.call (.glob 16 829065829068) [(.var 254 829069829072)] 829065829073) 829040829073) 829011829073) 829004829073)]
noncomputable def f__law_rows_right:FnI:=⟨[4,58],[],[(4,.local),(58,.local),(145,.local),(254,.local),(257,.local),(256,.globalImplicit),(161,.globalImplicit),(258,.globalImplicit),(16,.globalImplicit)],b__law_rows_right,true⟩
noncomputable def b__law_asked_right:List MS:=[
  (.asg (.var 43 831004831008) (.comp (.var 114 831012831014) [(.gen (.tup [(.var 114 831019831021),(.var 78 831023831026)] 0 831019831026) (.call (.glob 251 831030831039) [(.var 58 831040831044)] 831030831045) [(.call (.glob 249 831049831059) [(.var 158 831060831065),(.var 78 831067831070)] 831049831071)])] [(0,.local),(114,.local),(78,.local),(249,.globalImplicit),(158,.free)] 831011831072) 831004831072),
  (.asg (.var 259 832004832008) (.comp (.var 114 832012832014) [(.gen (.var 114 832019832021) (.var 43 832025832029) [(.cmp .Eq (.comp (.var 146 832034832038) [(.gen (.var 146 832043832047) (.var 43 832051832055) [(.bop true [(.cmp .NotEq (.var 146 832059832063) (.var 114 832067832069) 832059832069),(.not (.call (.glob 252 832079832089) [(.sub (.var 58 832090832094) (.var 114 832095832097) 832090832098),(.sub (.var 58 832100832104) (.var 146 832105832109) 832100832110)] 832079832111) 832075832111)] 832059832112)])] [(0,.local),(146,.local),(252,.globalImplicit),(114,.free),(58,.free)] 832033832113) (.lst [] 832117832119) 832033832119)])] [(0,.local),(114,.cell),(58,.free),(43,.free)] 832011832120) 832004832120),
  (.asg (.tup [(.var 145 833004833008),(.var 260 833010833020)] 0 833004833020) (.tup [(.comp (.call (.glob 255 833025833033) [(.var 78 833034833037)] 833025833038) [(.gen (.var 78 833043833046) (.var 58 833050833054) [])] [(0,.local),(78,.local),(255,.globalImplicit)] 833024833055),(.call (.glob 255 833057833065) [(.var 158 833066833071)] 833057833072)] 0 833023833073) 833004833073),
  (.ret (.bop true [(.cmp .Eq (.call (.glob 159 834011834018) [(.var 4 834019834024),(.var 145 834026834030),(.var 260 834032834042)] 834011834043) (.var 43 834047834051) 834011834051),(.cmp .Eq (.call (.glob 261 834056834068) [(.var 4 834069834074),(.var 145 834076834080),(.var 260 834082834092)] 834056834093) (.bop true [(.cmp .NotEq (.var 43 834098834102) (.lst [] 834106834108) 834098834108),(.cmp .Eq (.var 259 834113834117) (.lst [] 834121834123) 834113834123)] 834098834123) 834056834124)] 834011834124) 834004834124)]
noncomputable def f__law_asked_right:FnI:=⟨[4,58,158],[],[(4,.local),(58,.cell),(158,.cell),(43,.cell),(259,.local),(145,.local),(260,.local),(251,.globalImplicit),(255,.globalImplicit),(159,.globalImplicit),(261,.globalImplicit)],b__law_asked_right,true⟩
noncomputable def b_law:List MS:=[
  (.asg (.tup [(.var 4 836004836009),(.var 242 836011836015)] 0 836004836015) (.tup [(.call (.glob 262 836019836030) [] 836019836032),(.call (.glob 263 836034836043) [(.var 237 836044836050)] 836034836051)] 0 836018836052) 836004836052),
  (.ifs (.not (.call (.glob 264 837011837026) [(.var 4 837027837032),(.lst [(.lst [(.lst [(.const (.str 235) 837037837044)] 837036837045),(.lst [(.const (.str 170) 837048837053)] 837047837054)] 837035837055),(.lst [(.lst [(.const (.str 170) 837059837064)] 837058837065),(.lst [(.const (.str 235) 837068837075)] 837067837076)] 837057837077),(.lst [(.lst [(.const (.str 235) 837081837088)] 837080837089),(.lst [(.const (.str 190) 837092837098)] 837091837099)] 837079837100)] 837034837101)] 837011837102) 837007837102) [(.ret (.const (.bool false) 838015838020) 838008838020)] [] 837004838020),
  (.asg (.var 59 839004839008) (.bin .Add (.const (.int 1) 839011839012) (.call (.glob 245 839015839025) [(.var 242 839026839030),(.const (.int 2) 839032839033)] 839015839034) 839011839034) 839004839034),
  (.asg (.var 58 840004840008) (.mk (.comp (.comp (.call (.glob 265 840013840021) [(.var 242 840022840026)] 840013840027) [(.gen (.var 122 840032840036) (.call (.glob 113 840040840045) [(.var 59 840046840050)] 840040840051) [])] [(0,.local),(122,.local),(265,.globalImplicit),(242,.free)] 840012840052) [(.gen (.var 78 840057840060) (.call (.glob 113 840064840069) [(.bin .Add (.const (.int 3) 840070840071) (.call (.glob 245 840074840084) [(.var 242 840085840089),(.const (.int 3) 840091840092)] 840074840093) 840070840093)] 840064840094) [])] [(0,.local),(78,.local),(113,.globalImplicit),(59,.free),(242,.free)] 840011840095)) 840004840095),
  (.ifs (.cmp .Eq (.call (.glob 245 841007841017) [(.var 242 841018841022),(.const (.int 3) 841024841025)] 841007841026) (.const (.int 0) 841030841031) 841007841031) [(.asg (.sub (.var 58 842008842012) (.const (.int 0) 842013842014) 842008842015) (.bin .Add (.sub (.var 58 842018842022) (.const (.int 0) 842023842024) 842018842025) (.lst [(.lst [(.const (.str 170) 842030842035)] 842029842036)] 842028842037) 842018842037) 842008842037)] [] 841004842037),
  (.ifs (.not (.call (.glob 264 843011843026) [(.var 4 843027843032),(.var 58 843034843038)] 843011843039) 843007843039) [(.ret (.const (.bool false) 844015844020) 844008844020)] [] 843004844020),
  (.fors (.var 122 845008845012) (.call (.glob 113 845016845021) [(.const (.int 3) 845022845023)] 845016845024) [(.asg (.var 158 846008846013) (.comp (.lst [(.sub (.lst [(.const (.str 235) 846019846026),(.const (.str 236) 846028846035),(.const (.str 198) 846037846043),(.const (.str 199) 846045846053)] 846018846054) (.call (.glob 245 846055846065) [(.var 242 846066846070),(.const (.int 4) 846072846073)] 846055846074) 846018846075)] 846017846076) [(.gen (.var 34 846081846085) (.call (.glob 113 846089846094) [(.var 59 846095846099)] 846089846100) [])] [(0,.local),(34,.local),(245,.globalImplicit),(242,.free)] 846016846101) 846008846101),
  (.ifs (.not (.call (.glob 266 847015847031) [(.var 4 847032847037),(.var 58 847039847043),(.var 158 847045847050)] 847015847051) 847011847051) [(.ret (.const (.bool false) 848019848024) 848012848024)] [] 847008848024)] 845004848024),
  (.ret (.const (.bool true) 849011849015) 849004849015)]
noncomputable def f_law:FnI:=⟨[237],[],[(237,.local),(4,.local),(242,.cell),(59,.cell),(122,.local),(58,.local),(158,.local),(262,.globalImplicit),(263,.globalImplicit),(264,.globalImplicit),(245,.globalImplicit),(113,.globalImplicit),(266,.globalImplicit)],b_law,false⟩
noncomputable def fnT:List FnI:=[f_named,f_tuple_of,f_union_of,f_parts_of_kind,f_substituted,f_free_vars,f_opened,f_kind_text,f_Sides___init__,f_Sides_copied,f_Sides_opened,f_Sides_is_asked,f_left_cases,f_tuple_cases,f_is_empty,f_tail_of,f_Search___init__,f_Search_run,f_Search_settled,f_Search_step,f_Search_by_form,f_Search_plain,f_Search_nominal,f_Search_are_concrete,f_tuple_ways,f_is_subtype,f_same_kind,f_names_within,f_Meeting___init__,f_Meeting_is_open,f_Meeting_settled,f_Meeting_meet,f_Meeting_meet_by_word,f_Meeting_meet_union,f_Meeting_meet_plain,f_Meeting_meet_tuples,f_Meeting_meet_names,f_intersection,f_binders_many,f_is_more_specific,f_is_ahead_of_all,f_best_of,f_is_settled_by,f_are_ambiguous,f_ambiguous_pairs,f_fitting,f_is_left_open,f_ambiguity_text,f_Decl___init__,f_Decl_table_for,f_Kinds___init__,f_Kinds_declare,f_Kinds_decl,f_Kinds_super_of,f_Kinds_supers,f_nominal,f_start_kinds,f_start_errors,f_start_rows,f__law_up,f__law_silo,f__law_grain,f__law_chain,f__law_lot,f__law_kind,f__law_sig,f__law_under,f__law_ahead,f__law_both,f__law_is_open,f__law_pairs,f__law_rows_right,f__law_asked_right,f_law]
noncomputable abbrev k_named:Nat:=0
noncomputable abbrev k_tuple_of:Nat:=1
noncomputable abbrev k_union_of:Nat:=2
noncomputable abbrev k_parts_of_kind:Nat:=3
noncomputable abbrev k_substituted:Nat:=4
noncomputable abbrev k_free_vars:Nat:=5
noncomputable abbrev k_opened:Nat:=6
noncomputable abbrev k_kind_text:Nat:=7
noncomputable abbrev k_Sides___init__:Nat:=8
noncomputable abbrev k_Sides_copied:Nat:=9
noncomputable abbrev k_Sides_opened:Nat:=10
noncomputable abbrev k_Sides_is_asked:Nat:=11
noncomputable abbrev k_left_cases:Nat:=12
noncomputable abbrev k_tuple_cases:Nat:=13
noncomputable abbrev k_is_empty:Nat:=14
noncomputable abbrev k_tail_of:Nat:=15
noncomputable abbrev k_Search___init__:Nat:=16
noncomputable abbrev k_Search_run:Nat:=17
noncomputable abbrev k_Search_settled:Nat:=18
noncomputable abbrev k_Search_step:Nat:=19
noncomputable abbrev k_Search_by_form:Nat:=20
noncomputable abbrev k_Search_plain:Nat:=21
noncomputable abbrev k_Search_nominal:Nat:=22
noncomputable abbrev k_Search_are_concrete:Nat:=23
noncomputable abbrev k_tuple_ways:Nat:=24
noncomputable abbrev k_is_subtype:Nat:=25
noncomputable abbrev k_same_kind:Nat:=26
noncomputable abbrev k_names_within:Nat:=27
noncomputable abbrev k_Meeting___init__:Nat:=28
noncomputable abbrev k_Meeting_is_open:Nat:=29
noncomputable abbrev k_Meeting_settled:Nat:=30
noncomputable abbrev k_Meeting_meet:Nat:=31
noncomputable abbrev k_Meeting_meet_by_word:Nat:=32
noncomputable abbrev k_Meeting_meet_union:Nat:=33
noncomputable abbrev k_Meeting_meet_plain:Nat:=34
noncomputable abbrev k_Meeting_meet_tuples:Nat:=35
noncomputable abbrev k_Meeting_meet_names:Nat:=36
noncomputable abbrev k_intersection:Nat:=37
noncomputable abbrev k_binders_many:Nat:=38
noncomputable abbrev k_is_more_specific:Nat:=39
noncomputable abbrev k_is_ahead_of_all:Nat:=40
noncomputable abbrev k_best_of:Nat:=41
noncomputable abbrev k_is_settled_by:Nat:=42
noncomputable abbrev k_are_ambiguous:Nat:=43
noncomputable abbrev k_ambiguous_pairs:Nat:=44
noncomputable abbrev k_fitting:Nat:=45
noncomputable abbrev k_is_left_open:Nat:=46
noncomputable abbrev k_ambiguity_text:Nat:=47
noncomputable abbrev k_Decl___init__:Nat:=48
noncomputable abbrev k_Decl_table_for:Nat:=49
noncomputable abbrev k_Kinds___init__:Nat:=50
noncomputable abbrev k_Kinds_declare:Nat:=51
noncomputable abbrev k_Kinds_decl:Nat:=52
noncomputable abbrev k_Kinds_super_of:Nat:=53
noncomputable abbrev k_Kinds_supers:Nat:=54
noncomputable abbrev k_nominal:Nat:=55
noncomputable abbrev k_start_kinds:Nat:=56
noncomputable abbrev k_start_errors:Nat:=57
noncomputable abbrev k_start_rows:Nat:=58
noncomputable abbrev k__law_up:Nat:=59
noncomputable abbrev k__law_silo:Nat:=60
noncomputable abbrev k__law_grain:Nat:=61
noncomputable abbrev k__law_chain:Nat:=62
noncomputable abbrev k__law_lot:Nat:=63
noncomputable abbrev k__law_kind:Nat:=64
noncomputable abbrev k__law_sig:Nat:=65
noncomputable abbrev k__law_under:Nat:=66
noncomputable abbrev k__law_ahead:Nat:=67
noncomputable abbrev k__law_both:Nat:=68
noncomputable abbrev k__law_is_open:Nat:=69
noncomputable abbrev k__law_pairs:Nat:=70
noncomputable abbrev k__law_rows_right:Nat:=71
noncomputable abbrev k__law_asked_right:Nat:=72
noncomputable abbrev k_law:Nat:=73
noncomputable def clT:List ClI:=[⟨8,[(89,9),(99,10),(61,11)],[58,59]⟩,⟨16,[(117,17),(85,18),(87,19),(98,20),(101,21),(103,22),(90,23)],[4,81]⟩,⟨28,[(123,29),(85,30),(130,31),(124,32),(126,33),(125,34),(132,35),(133,36)],[4,119,29]⟩,⟨48,[(180,49)],[1,2,168,165,166,167]⟩,⟨50,[(182,51),(172,52),(181,53),(107,54)],[169]⟩]
noncomputable def glT:List (Nat×AV):=[(191,.fn 0),(79,.fn 1),(131,.fn 2),(32,.fn 3),(30,.fn 4),(120,.fn 5),(99,.fn 6),(19,.fn 7),(73,.fn 12),(75,.fn 13),(80,.fn 14),(112,.fn 15),(104,.fn 24),(118,.fn 25),(154,.fn 26),(142,.fn 27),(155,.fn 37),(144,.fn 38),(147,.fn 39),(149,.fn 40),(160,.fn 41),(156,.fn 42),(157,.fn 43),(161,.fn 44),(159,.fn 45),(261,.fn 46),(258,.fn 47),(103,.fn 55),(262,.fn 56),(205,.fn 57),(206,.fn 58),(244,.fn 59),(263,.fn 60),(245,.fn 61),(246,.fn 62),(265,.fn 63),(248,.fn 64),(255,.fn 65),(249,.fn 66),(252,.fn 67),(250,.fn 68),(253,.fn 69),(256,.fn 70),(264,.fn 71),(266,.fn 72),(286,.fn 73),(60,.cl 0),(116,.cl 1),(141,.cl 2),(171,.cl 3),(183,.cl 4),(16,.pr .len),(241,.pr .abs),(137,.pr .max),(17,.pr .sorted),(3,.pr .tuple),(8,.pr .list),(28,.pr .dict),(239,.pr .int),(15,.dat (.tup [.str (cdX 1),.str (cdX 170),.tup []])),(13,.dat (.tup [.str (cdX 268)])),(76,.dat (.int 64)),(105,.dat (.tup [.str (cdX 1),.str (cdX 184),.tup []])),(106,.dat (.tup [.str (cdX 1),.str (cdX 185),.tup []])),(195,.dat (.tup [.str (cdX 269),.str (cdX 270),.str (cdX 271),.str (cdX 235),.str (cdX 272)])),(196,.dat (.tup [.str (cdX 236),.str (cdX 273),.str (cdX 274),.str (cdX 275)])),(207,.dat (.tup [.str (cdX 276),.str (cdX 277),.str (cdX 278),.str (cdX 279)])),(208,.dat (.tup [.str (cdX 280),.str (cdX 281),.str (cdX 282),.str (cdX 283)])),(210,.dat (.tup [.str (cdX 284),.str (cdX 285)]))]
noncomputable def itN:ItN:=⟨113,108,251⟩
end
section
open PySem PySem.W PyProof.Rows
abbrev rw0:=PySem.Challenge.rw_pq0722_01
abbrev pg:Program:=PySem.Challenge.pw_pq0722_01
noncomputable def looseS:List String:=["_wall", "ANY", "BOTTOM", "named", "tuple_of", "union_of", "parts_of_kind", "rebuilt_kind", "substituted", "free_vars", "opened", "binder_text", "kind_text", "MOST_CASES", "Side", "Sides", "occurrences", "bound_occurrences", "is_diagonal", "left_cases", "tuple_cases", "is_empty", "tail_of", "TYPE", "FUNCTION", "Search", "narrowed", "widened", "has_within", "tuple_ways", "is_subtype", "same_kind", "FORMS", "names_within", "Meeting", "intersection", "binders_many", "is_more_specific", "is_ahead_of_all", "best_of", "is_settled_by", "are_ambiguous", "ambiguous_pairs", "fitting", "is_left_open", "ambiguity_text", "RowsError", "KindFault", "SIGNED", "UNSIGNED", "PLAIN_ERRORS", "TEXT_ERRORS", "CALL_ERRORS", "Decl", "Kinds", "nominal", "start_kinds", "start_errors", "start_rows", "_law_up", "_law_silo", "_law_grain", "_law_chain", "_law_lot", "_law_kind", "_law_sig", "_law_under", "_law_ahead", "_law_both", "_law_is_open", "_law_pairs", "_law_rows_right", "_law_asked_right"]
noncomputable def loose:List Str:=looseS.map Str.ofString
noncomputable def vw:Program:=view pg [82]
noncomputable def envT:Env:={scope:=pg.main.scope,locals:=mainNs,globals:=mainNs,cells:=[],code:=.ref 13,frame:=some 14}
noncomputable def cT:Code:=.body (behindTheImports pg) envT
noncomputable def p0:Pos:={line:=0,col:=0,endLine:=0,endCol:=0}
noncomputable def p1:Pos:={line:=835,col:=0,endLine:=849,endCol:=15}
noncomputable def o11:Obj:={cls:=.type "tuple",data:=.seq #[]}
noncomputable def o12:Obj:={cls:=.none,data:=.fields #[]}
noncomputable def o13:Obj:={cls:=Value.type "code",data:=Data.fields #[Value.str (Str.ofString "<module>") 182,Value.str (Str.ofString "<module>") 183,Value.str (Str.ofString "/claim/cut.py") 184,Value.int 1 0,Value.int 0 0,Value.int 0 0,Value.int 0 0,Value.int 0 0,Value.ref 11,Value.bool false,Value.int 181 0,Value.ref 12,Value.none,Value.none,Value.none,Value.none,Value.int 185 0,Value.int 1 0,Value.str (Str.ofString "/claim/cut.py") 186]}
noncomputable def o14:Obj:={cls:=Value.type "frame",slots:=#[some (Value.ref 13),some (Value.ref 3),some (Value.ref 3),none,some (Value.str (Str.ofString "__main__") 164),none,some (Value.ref 0)]}
noncomputable def h15 (p:Params):Heap:={objs:=#[boot_o_0 p,boot_o_1 p,boot_o_2 p,boot_o_3 p,boot_o_4 p,boot_o_5 p,boot_o_6 p,boot_o_7 p,boot_o_8 p,boot_o_9 p,boot_o_10 p,o11,o12,o13,o14],life:={}}
noncomputable def sh0 (w:World) (os:OsState):Shared:=⟨boot_heap w.params,#[],boot_drawn,boot_toks,os⟩
noncomputable def sh1 (w:World) (os:OsState):Shared:=⟨h15 w.params,#[],boot_drawn,187,os⟩
noncomputable def ann:Option Value:=some (.ref 6)
theorem pre':∀ w:World,(fun os=>PySem.W.Fast.tw15667345088766844465 PySem.W.Fast.tw14364793385576792824 pg w 11 ann 12 (sh0 w os) (topStub pg))=fun os=>some (sh1 w os,⟨PySem.W.Fast.tw11892475500146522536 PySem.W.Fast.tw14364793385576792824 cT,cT,p0,[topFrame p0]⟩):=fun w=>by kernel_rfl
theorem pre:∀ (w:World) (os:OsState),topGo treeTable pg w 11 ann 12 (sh0 w os) (topStub pg)=some (sh1 w os,⟨denote treeTable cT,cT,p0,[topFrame p0]⟩):=fun w os=>by
 rw [PySem.W.Fast.te15667345088766844465,PySem.W.Fast.te14364793385576792824]
 rw [PySem.W.Fast.te11892475500146522536]
 exact congrFun (pre' w) os
noncomputable def t15 (p:Params):BT:=.node (boot_o_0 p) (.node (boot_o_1 p) (.node (boot_o_3 p) (.node (boot_o_7 p) .nil .nil) (.node o11 .nil .nil)) (.node (boot_o_5 p) (.node (boot_o_9 p) .nil .nil) (.node o13 .nil .nil)))
 (.node (boot_o_2 p) (.node (boot_o_4 p) (.node (boot_o_8 p) .nil .nil) (.node o12 .nil .nil)) (.node (boot_o_6 p) (.node (boot_o_10 p) .nil .nil) (.node o14 .nil .nil)))
noncomputable def sT (w:World) (os:OsState):SharedT:=⟨t15 w.params,15,{},#[],boot_drawn,187,os⟩
theorem sT_abs:∀ w:World,(fun os=>(sT w os).abs)=fun os=>sh1 w os:=fun w=>by kernel_rfl
theorem blk:∀ w:World,(fun os=>segRun treeTable pg w 11 ann 1 1 (sh1 w os) (blockOf (behindTheImports pg) envT cT p0 [topFrame p0]))=fun os=>some (.next,sh1 w os,cT,p0):=fun w=>by kernel_rfl
noncomputable def body0:List Stmt:=behindTheImports pg
noncomputable def big (w:World) (os:OsState):=segRunT treeTable pg w 11 ann 1 5405 (sT w os) (piecesOf body0 envT cT p0 [topFrame p0])
noncomputable def xt0 (s:Shared):Bool:=xlAt vw [] s&&recOk (RowW.records rw0.row.toRowW) s
noncomputable def mods0:List Str:=importedModules pg.main.body
theorem opened:∀ w:World,(fencedOpening treeTable pg w 10934).map (fun s=>(s.heap,s.gens,s.drawn,s.toks))=some (boot_heap w.params,Array.mk [],boot_drawn,boot_toks) :=
 boot_open (by kernel_rfl) (by decide) fun s=>by kernel_rfl
theorem szA:∀ w:World,((boot_heap w.params).isNs mainGlobals&&(#[]:Array GenState).size==0)=true:=fun w=>by kernel_rfl
theorem szB:∀ w:World,(boot_heap w.params).objs.size=11:=fun w=>by kernel_rfl
theorem szC:∀ w:World,(boot_heap w.params).nsMap mainGlobals "__annotations__" = ann:=fun w=>by kernel_rfl
theorem finT:∀ (w:World) (s:Shared),topRun treeTable pg w 11 ann 2 s ⟨doneF .next,cT,p1,[topFrame p0]⟩=some s:=fun w s=>rfl
section
variable {p q:Program} {loose:List Str} {Xt:Shared→Bool} {α:Type} {Yf:Shared→α} {Ya:World→α} {N m0 n1 n2 n3:Nat} {ann:Option Value} {env:Env} {c:Code} {pa pz:Pos} {H0:Params→Heap} {d0:Drawn} {k0:Nat} {S1:World→OsState→Shared} {sT:World→OsState→SharedT}
theorem left_gen (opened:∀ w:World,(fencedOpening treeTable p w N).map (fun s=>(s.heap,s.gens,s.drawn,s.toks))=some (H0 w.params,Array.mk [],d0,k0))
  (szA:∀ w:World,((H0 w.params).isNs mainGlobals&&(#[]:Array GenState).size==0)=true) (szB:∀ w:World,(H0 w.params).objs.size=m0) (szC:∀ w:World,(H0 w.params).nsMap mainGlobals "__annotations__" = ann)
  (hc:c=.body (behindTheImports p) env)
  (pre:∀ (w:World) (os:OsState),topGo treeTable p w m0 ann n1 ⟨H0 w.params,Array.mk [],d0,k0,os⟩ (topStub p)=some (S1 w os,⟨denote treeTable c,c,pa,[topFrame pa]⟩))
  (hT:∀ w os,(sT w os).abs=S1 w os)
  (blk:∀ w os,segRun treeTable p w m0 ann 1 1 (S1 w os) (blockOf (behindTheImports p) env c pa [topFrame pa])=some (.next,S1 w os,c,pa))
  (fin:∀ w s,topRun treeTable p w m0 ann n3 s ⟨doneF .next,c,pz,[topFrame pa]⟩=some s)
  (hN:n1+(1+(n2+n3))≤N)
  (big:∀ (w:World) (os:OsState),(segRunT treeTable p w m0 ann 1 n2 (sT w os) (piecesOf (behindTheImports p) env c pa [topFrame pa])).map (fun r=>(r.1,r.2.2.1,r.2.2.2,(staticsOk (importedModules p.main.body) (H0 w.params) r.2.1.abs.heap&&namesBound p r.2.1.abs.heap&&gensDone r.2.1.abs&&laidKept (H0 w.params) r.2.1.abs.heap,openSeen q loose (importedModules p.main.body) Xt true r.2.1.abs,Yf r.2.1.abs))) =
   some (.next,c,pz,true,openGood q loose,Ya w)):LeftO p q loose Xt Yf Ya N:=fun w=>by
 obtain ⟨⟨h,gs,d,k,os⟩,e,e'⟩:=Option.map_eq_some_iff.mp (opened w)
 obtain ⟨rfl,rfl,rfl,rfl⟩:h=H0 w.params∧gs=Array.mk []∧d=d0∧k=k0:=by simpa using e'
 obtain ⟨⟨f,sF,c',q'⟩,e1,e2⟩:=Option.map_eq_some_iff.mp (big w os)
 simp only [Prod.mk.injEq] at e2
 obtain ⟨rfl,rfl,rfl,l1,l2,l3⟩:=e2
 have seg:=segRun_of e1
 rw [hT w os] at seg
 have run:topRun treeTable p w m0 ann (n1+(1+(n2+n3))) ⟨H0 w.params,Array.mk [],d,k,os⟩ (topStub p)=some sF.abs:=by
  refine go_top (pre w os) ?_
  have h1:=piece_app (rest:=[]) seg (piece_nil (fin w sF.abs))
  rw [List.append_nil] at h1
  have h2:=piece_block (blk w os) h1
  rw [← hc] at h2
  exact h2
 have r:=topRun_mono (N - (n1+(1+(n2+n3)))) _ _ _ _ run
 rw [Nat.add_sub_cancel' hN] at r
 have t:topFrom treeTable p w N ⟨H0 w.params,Array.mk [],d,k,os⟩=some sF.abs:=by
  unfold topFrom
  dsimp only
  rw [szA w,szB w,szC w,r]
  show (match staticsOk (importedModules p.main.body) (H0 w.params) sF.abs.heap&&namesBound p sF.abs.heap&&gensDone sF.abs&&laidKept (H0 w.params) sF.abs.heap with | true=>some sF.abs | false=>none)=_
  rw [l1]
 unfold openEnds
 rw [e]
 show ((topFrom treeTable p w N ⟨H0 w.params,Array.mk [],d,k,os⟩).map _)=_
 rw [t]
 show some (openSeen q loose (importedModules p.main.body) Xt true sF.abs,Yf sF.abs)=_
 rw [l3,l2]
end
theorem left' {α:Type} (Yf:Shared→α) (Ya:World→α)
  (big':∀ w:World,(fun os=>(PySem.W.Fast.tw10110043849684766642 PySem.W.Fast.tw14364793385576792824 pg w 11 ann 1 5405 (sT w os) (piecesOf body0 envT cT p0 [topFrame p0])).map fun r=>(r.1,r.2.2.1,r.2.2.2,(staticsOk mods0 (boot_heap w.params) r.2.1.abs.heap&&namesBound pg r.2.1.abs.heap&&gensDone r.2.1.abs&&laidKept (boot_heap w.params) r.2.1.abs.heap,PySem.W.Fast.tw4187177175401517315 vw loose mods0 xt0 true r.2.1.abs,Yf r.2.1.abs))) =
   fun os=>some (.next,cT,p1,true,openGood vw loose,Ya w)):LeftO pg vw loose xt0 Yf Ya 10934:=by
 rw [← PySem.W.Fast.te4187177175401517315,← PySem.W.Fast.te10110043849684766642,← PySem.W.Fast.te14364793385576792824] at big'
 exact left_gen opened szA szB szC rfl pre (fun w=>congrFun (sT_abs w)) (fun w=>congrFun (blk w)) finT (by decide) fun w=>congrFun (big' w)
end
open PySem PySem.W PyProof.Rows PySem.Spec PySem.SeqAt PySem.Calls
noncomputable abbrev toS (l:List Nat):Str:=⟨l.toArray⟩
noncomputable def rdLs (f:Value→Option DV) (l:List Value):Option (List DV):=lrec (some []) (fun v _ q=>ob (f v) fun d=>ob q fun l=>some (d::l)) l
noncomputable def rdK (K:Frag):Nat→Value→Option DV
 | 0,_=>none
 | n+1,v=>match v with
  | .none=>some .none
  | .bool b=>some (.bool b)
  | .int i _=>some (.int i)
  | .str s _=>match s.cps.all (· < 0x110000) with
   | true=>some (.str s.cps.toList)
   | false=>none
  | .ref a=>match K.lookup a with
   | some ⟨.type t,none,.seq vs _,sl⟩=>match t == "tuple",sl.toList with
    | true,[]=>ob (rdLs (rdK K n) vs.toList) fun l=>some (.tup l)
    | _,_=>none
   | _=>none
  | _=>none
noncomputable def obsFn (K:Frag) (a:Addr):Option ((List Str×List Str×List Str×Option Str×Option Str)×FuncBody×(ScopeKind×List (Str×NameKind)×Bool×Bool)×(Addr×List (Str×Addr)×Addr)×Bool×Option (List DV)):=match K.lookup a with
 | some ⟨_,_,.func fd,_⟩=>some ((fd.params.posonlyargs.map (·.arg),fd.params.args.map (·.arg),fd.params.kwonlyargs.map (·.arg),fd.params.vararg.map (·.arg),fd.params.kwarg.map (·.arg)),fd.body,(fd.scope.kind,fd.scope.names,fd.scope.isGenerator,fd.scope.isCoroutine),(fd.globals,fd.closure,fd.builtins),codeIn K fd.code fd.qualname,dfl K fd.defaults)
 | _=>none
where
 dfl (K:Frag):Value→Option (List DV)
  | .none=>some []
  | .ref T=>match K.lookup T with
   | some ⟨_,_,.seq vs _,_⟩=>rdLs (rdK K 6) vs.toList
   | _=>none
  | _=>none
noncomputable def wantFn (N:Nat→Str) (fi:FnI):Option ((List Str×List Str×List Str×Option Str×Option Str)×FuncBody×(ScopeKind×List (Str×NameKind)×Bool×Bool)×(Addr×List (Str×Addr)×Addr)×Bool×Option (List DV)) :=
 some (([],fi.ps.map N,[],none,none),.stmts (untrSs N fi.body),(.function,fi.sc.map (fun x=>(N x.1,x.2)),false,false),(mainGlobals,[],builtinsNs),true,some fi.dfl)
noncomputable def cdC (i:Nat):List Nat:=match cdT[i]? with
 | some s=>s
 | none=>List.replicate (i+1) 1000000
noncomputable def nC (i:Nat):Str:=toS (cdC i)
noncomputable def fnAT:List Nat:=[33,41,48,55,67,72,79,91,155,162,169,183,235,240,245,252,270,277,284,291,313,325,330,337,375,383,390,398,412,426,431,438,445,452,473,480,487,534,541,548,555,562,569,576,583,588,593,600,654,659,692,697,711,718,725,773,780,787,794,801,808,815,822,829,834,839,844,851,856,863,868,873,878,883]
noncomputable def clAT:List Nat:=[207,345,523,674,761]
noncomputable def fnA (k:Nat):Nat:=match fnAT[k]? with
 | some a=>a
 | none=>0
noncomputable def clA (c:Nat):Nat:=match clAT[c]? with
 | some a=>a
 | none=>0
noncomputable def tAtt (K:Frag) (C:Addr) (nm:Str):Bool:=plainGet K C nm&&(hasDictIn K C&&((match findIn K (.ref C) nm with | some a=>noGet K a | none=>false) &&
 (findIn K (.ref C) "__setattr__"==some (some (.builtin "object.__setattr__"))&&(plainOver K C&&takerIn K C nm==some none))))
noncomputable def tMet (K:Frag) (C:Addr) (nm:Str) (f:Addr):Bool:=plainGet K C nm&&(findIn K (.ref C) nm==some (some (.ref f))&&isFn K (.ref f))
noncomputable def tMak (K:Frag) (C i:Addr):Bool:=makesIn K C&&(findIn K (.ref C) "__init__"==some (some (.ref i))&&isFn K (.ref i))
noncomputable def tCls (K:Frag) (c:Nat) (ci:ClI):Bool:=tMak K (clA c) (fnA ci.init)&&(keepIn K (.ref (clA c))&&(ci.meths.all (fun m=>tMet K (clA c) (nC m.1) (fnA m.2))&&ci.attrs.all (fun a=>tAtt K (clA c) (nC a))))
noncomputable def tAll (K:Frag):Bool:=(List.range 5).all (fun c=>match clT[c]? with | some ci=>tCls K c ci | none=>true)&&((List.range 74).all (fun k=>keepIn K (.ref (fnA k))) &&
 (nsIn K mainGlobals (nC itN.range)==some none&&(nsIn K mainGlobals (nC itN.zip)==some none&&(nsIn K mainGlobals (nC itN.enum)==some none&&(K.lookup sysModules).isSome))))
noncomputable def obsGl (K:Frag) (x:Nat×AV):Option (Option Value)×Option DV:=match x.2 with
 | .dat _=>(none,match nsIn K mainGlobals (nC x.1) with | some (some v)=>rdK K 8 v | _=>none)
 | _=>(nsIn K mainGlobals (nC x.1),none)
noncomputable def wantGl (x:Nat×AV):Option (Option Value)×Option DV:=match x.2 with
 | .dat d=>(none,some d)
 | .fn k=>(some (some (.ref (fnA k))),none)
 | .cl k=>(some (some (.ref (clA k))),none)
 | .pr _=>(some none,none)
 | _=>(none,some .none)
noncomputable def ksT:List Nat:=[3,1,207,206,208,209,345,344,346,347,523,522,524,525,674,673,675,676,761,760,762,763,26,25,34,148,376,647,646,766,23,22,24,254,253,256,255,634,635,636,637,638]++fnAT++fnAT.map (· - 1)
noncomputable def frg (h:Heap):Frag:=ksT.filterMap fun a=>(h.get? a).map fun o=>(a,o)
noncomputable abbrev ObsT:=Bool×List (Option ((List Str×List Str×List Str×Option Str×Option Str)×FuncBody×(ScopeKind×List (Str×NameKind)×Bool×Bool)×(Addr×List (Str×Addr)×Addr)×Bool×Option (List DV)))×List (Option (Option Value)×Option DV)
noncomputable def obs (h:Heap):ObsT:=(tAll (frg h),fnAT.map (obsFn (frg h)),glT.map (obsGl (frg h)))
noncomputable def want:ObsT:=(true,fnT.map (wantFn nC),glT.map wantGl)
noncomputable def lawN:Str:=nC 286
noncomputable def lawAt (K:Frag):Bool:=nsIn K mainGlobals lawN==some (some (.ref 883))
noncomputable def obs2 (h:Heap):ObsT×Bool:=(obs h,lawAt (frg h))
noncomputable def want2:ObsT×Bool:=(want,true)
noncomputable def topX (w:World) (os:OsState):=Fast.tw10110043849684766642 Fast.tw14364793385576792824 pg w 11 ann 1 5405 (sT w os) (piecesOf body0 envT cT p0 [topFrame p0])
noncomputable def getT (s:SharedT) (a:Nat):Option Obj:=cond (Nat.blt a s.n) (alive ((s.tree.get a).getD default)) none
theorem getT_abs (s:SharedT) (a:Nat):s.abs.heap.get? a=getT s a:=by
 show (absHeap s.tree s.n s.life).get? a=_
 unfold Heap.get? getT
 rw [absHeap_at]
 by_cases h:a < s.n
 ·rw [if_pos h,show Nat.blt a s.n=true from Nat.ble_eq_true_of_le h]
  show (match some ((s.tree.get a).getD default) with | some ⟨_,_,.freed,_⟩=>none | o=>o)=alive ((s.tree.get a).getD default)
  obtain ⟨c,d,dt,sl⟩:=(s.tree.get a).getD default
  cases dt <;> rfl
 ·rw [if_neg h,show Nat.blt a s.n=false from Bool.eq_false_iff.mpr fun q=>h (Nat.le_of_ble_eq_true q)];rfl
noncomputable def frgT (s:SharedT):Frag:=ksT.filterMap fun a=>(getT s a).map fun o=>(a,o)
theorem frg_abs (s:SharedT):frg s.abs.heap=frgT s:=congrArg (fun f:Nat→Option Obj=>ksT.filterMap fun a=>(f a).map fun o=>(a,o)) (funext (getT_abs s))
theorem bigA:∀ w:World,(fun os=>(topX w os).map fun r=>(r.1,r.2.2.1,r.2.2.2,(staticsOk mods0 (boot_heap w.params) r.2.1.abs.heap&&namesBound pg r.2.1.abs.heap&&gensDone r.2.1.abs&&laidKept (boot_heap w.params) r.2.1.abs.heap,Fast.tw4187177175401517315 vw loose mods0 xt0 true r.2.1.abs))) =
   fun os=>some (.next,cT,p1,true,openGood vw loose):=fun w=>by kernel_rfl
theorem bigT:∀ w:World,(fun os=>(topX w os).map fun r=>(tAll (frgT r.2.1),glT.map (obsGl (frgT r.2.1)),lawAt (frgT r.2.1)))=fun os=>some (true,glT.map wantGl,true):=fun w=>by kernel_rfl
theorem bigF:∀ w:World,(fun os=>(topX w os).map fun r=>fnAT.map (obsFn (frgT r.2.1)))=fun os=>some (fnT.map (wantFn nC)):=fun w=>by kernel_rfl
theorem mapS {α β:Type} {x:Option α} {f:α→β} {r:α} {b:β} (e:x=some r) (h:x.map f=some b):f r=b:=by rw [e] at h;exact Option.some.inj h
theorem bigC {α β:Type} {x:Option α} {f:α→β} {b:β} {P:Option α→Prop} (h:x.map f=some b) (k:∀ r,x=some r→f r=b→P (some r)):P x:=by
 cases x with
 | none=>exact absurd h (by exact fun h=>nomatch h)
 | some r=>exact k r rfl (Option.some.inj h)
theorem bigO2:∀ w:World,(fun os=>(Fast.tw10110043849684766642 Fast.tw14364793385576792824 pg w 11 ann 1 5405 (sT w os) (piecesOf body0 envT cT p0 [topFrame p0])).map fun r=>(r.1,r.2.2.1,r.2.2.2,(staticsOk mods0 (boot_heap w.params) r.2.1.abs.heap&&namesBound pg r.2.1.abs.heap&&gensDone r.2.1.abs&&laidKept (boot_heap w.params) r.2.1.abs.heap,Fast.tw4187177175401517315 vw loose mods0 xt0 true r.2.1.abs,obs2 r.2.1.abs.heap))) =
   fun os=>some (.next,cT,p1,true,openGood vw loose,want2):=fun w=>funext fun os=>by
 have hT:=congrFun (bigT w) os
 have hF:=congrFun (bigF w) os
 refine bigC (x:=topX w os) (P:=fun x=>x.map _=_) (congrFun (bigA w) os) fun r e h=>?_
 have t:=mapS e hT
 have f0:=mapS e hF
 have f:fnAT.map (obsFn (frgT r.2.1))=fnT.map (wantFn nC):=f0
 refine congrArg some ?_
 injection h with h1 h
 injection h with h2 h
 injection h with h3 h
 injection h with h4 h5
 injection t with t1 t
 injection t with t2 t3
 show (r.1,r.2.2.1,r.2.2.2,_,_,obs2 r.2.1.abs.heap)=(_,_,_,_,_,want2)
 unfold obs2 want2 obs want
 rw [frg_abs,h1,h2,h3,h4,h5,t1,t2,t3,f]
theorem andI {a b:Bool} (h:a=true) (k:b=true):(a&&b)=true:=by rw [h];exact k
theorem said3:Fast.tw8377067652309620493 pg=true:=by kernel_rfl
theorem said5:Fast.tw8326940854005059898 {strict:=!R.allR (Fast.tw5923862056798008813 pg.main.body) (Fast.tw3471404346716756564 Fast.tw17691160309236699985),foot:=none,bare:=R.filterR (Fast.tw13343964577679436407 pg pg.main.body) [{cps:={toList:=[118,97,114,115]}},{cps:={toList:=[100,105,114]}},{cps:={toList:=[108,111,99,97,108,115]}}]} pg.main.body=true:=by kernel_rfl
theorem said6:(Fast.tw17119622794617984870 pg pg.main.body fun x n=>Fast.tw17868728402115742887 n)=true:=by kernel_rfl
theorem said18:(Fast.tw17119622794617984870 rw0.prog rw0.above fun x n=>!Fast.tw3471404346716756564 (Fast.tw10792542408131684335 rw0) n)=true:=by kernel_rfl
theorem saidA:Fast.tw12908688711261696721 pg=true:=andI (andI (andI (andI (andI (by kernel_rfl) (by kernel_rfl)) said3) (by kernel_rfl)) said5) said6
theorem saidB:Fast.tw2436336058641802641 (Fast.tw2368527892694137696 rw0)=true:=by
 unfold Fast.tw2436336058641802641
 repeat' (with_reducible refine andI ?_ ?_)
 ·exact saidA
 all_goals kernel_rfl
theorem saidC:Fast.tw17960256430627541270 (Fast.tw2368527892694137696 rw0)=true:=andI (andI saidB (by kernel_rfl)) (by kernel_rfl)
theorem said0:Fast.tw9446332074065402090 rw0=true:=by
 unfold Fast.tw9446332074065402090
 repeat' (with_reducible refine andI ?_ ?_)
 ·exact saidC
 all_goals first | (with_reducible exact said18) | kernel_rfl
theorem said:PySem.Challenge.rw_pq0722_01.wellSaid=true:=(congrFun Fast.te9446332074065402090 rw0).trans said0
section
theorem toS_inj {a b:List Nat} (h:toS a=toS b):a=b:=congrArg (fun s:Str=>s.cps.toList) h
theorem ne_of {h:Heap} {a:Addr} {o:Obj} (e:h.get? a=some o):h.get? a≠none:=e ▸ Option.some_ne_none o
theorem nn_of {h:Heap} {a:Addr} (e:h.get? a≠none):∃ o,h.get? a=some o:=Option.ne_none_iff_exists'.mp e
theorem size_none (h:Heap):h.get? h.objs.size=none:=Classical.byContradiction fun q=>let ⟨_,e⟩:=nn_of q;absurd (Heap.lt_size e) (Nat.lt_irrefl _)
section
variable {α β γ:Type}
noncomputable def LR (P:α→β→Prop) (l:List α):List β→Prop:=lrec (fun vs=>vs=[]) (fun a _ q vs=>∃ v us,vs=v::us∧P a v∧q us) l
variable {P Q:α→β→Prop} {a:α} {v:β} {l m:List α} {vs us:List β}
theorem LR.cons (p:P a v) (r:LR P l vs):LR P (a::l) (v::vs):=⟨v,vs,rfl,p,r⟩
@[elab_as_elim] theorem LR.c {X:List β→Prop} (r:LR P (a::l) vs) (k:∀ v us,P a v→LR P l us→X (v::us)):X vs:=by obtain ⟨v,us,e,a,b⟩:=r;rw [e];exact k v us a b
@[elab_as_elim] theorem LR.n {X:List β→Prop} (r:LR P [] vs) (k:X []):X vs:=(show vs=[] from r) ▸ k
theorem LR.mono (h:∀ a v,P a v→Q a v) (r:LR P l vs):LR Q l vs:=by
 induction l generalizing vs with
 | nil=>exact r
 | cons a l ih=>exact r.c fun v us p q=>.cons (h _ _ p) (ih q)
theorem LR.map (f:γ→α) {l:List γ}:LR P (l.map f) vs↔LR (fun c=>P (f c)) l vs:=by
 induction l generalizing vs with
 | nil=>exact Iff.rfl
 | cons a l ih=>exact ⟨fun r=>r.c fun v us p q=>.cons p (ih.mp q),fun r=>r.c fun v us p q=>.cons p (ih.mpr q)⟩
theorem LR.len (r:LR P l vs):vs.length=l.length:=by
 induction l generalizing vs with
 | nil=>exact r.n rfl
 | cons a l ih=>refine r.c fun v us p q=>?_;exact congrArg (·+1) (ih q)
theorem LR.app (r:LR P l vs) (q:LR P m us):LR P (l++m) (vs++us):=by
 induction l generalizing vs with
 | nil=>exact r.n q
 | cons a l ih=>exact r.c fun v us p q=>.cons p (ih q)
theorem LR.one (p:P a v):LR P [a] [v]:=.cons p rfl
theorem LR.rev (r:LR P l vs):LR P l.reverse vs.reverse:=by
 induction l generalizing vs with
 | nil=>exact r.n rfl
 | cons a l ih=>exact r.c fun v us p q=>by rw [List.reverse_cons,List.reverse_cons];exact (ih q).app (.one p)
theorem LR.tl (r:LR P l vs):LR P l.tail vs.tail:=by
 cases l with
 | nil=>exact r.n rfl
 | cons a l=>exact r.c fun v us p q=>q
theorem LR.get {n:Nat} (r:LR P l vs) (e:l[n]?=some a):∃ v,vs[n]?=some v∧P a v:=by
 induction l generalizing vs n with
 | nil=>exact nos e
 | cons b l ih=>cases n with
  | zero=>exact r.c fun v us p q=>⟨v,rfl,Option.some.inj e ▸ p⟩
  | succ n=>exact r.c fun v us p q=>(ih q (n:=n) e :)
theorem LR.set {n:Nat} (r:LR P l vs) (p:P a v):LR P (l.set n a) (vs.set n v):=by
 induction l generalizing vs n with
 | nil=>exact r.n rfl
 | cons b l ih=>cases n with
  | zero=>exact r.c fun v us _ q=>.cons p q
  | succ n=>exact r.c fun v us p q=>.cons p (ih q)
end
structure St where
 prog:Program
 w:World
 G0:Heap
 N:Nat→Str
 fnA:Nat→Addr
 clA:Nat→Addr
 φb:Nat→Option Addr
 K:Frag
 I:ItN
structure Gd where
 st:St
 C:Cfg
 D:Nat→DV
structure Kn where
 f:Addr→Option Obj
 φ:Nat→Option Addr
structure Wo where
 k:Kn
 s:Shared
noncomputable abbrev Wo.h (w:Wo) (a:Addr):Option Obj:=w.s.heap.get? a
structure KLe (k k':Kn):Prop where
 f:∀ {a o},k.f a=some o→k'.f a=some o
 φ:∀ {n a},k.φ n=some a→k'.φ n=some a
theorem KLe.rfl {k:Kn}:KLe k k:=⟨fun e=>e,fun e=>e⟩
noncomputable def pkV (p:PK):Value:=PK.rec (.builtin "len") (.builtin "abs") (.builtin "max") (.builtin "sorted") (.type "tuple") (.type "list") (.type "dict") (.type "int") p
noncomputable def sqO (t:String) (vs:List Value) (n:Nat):Obj:={cls:=.type t,data:=.seq vs.toArray n}
noncomputable def Sq (t:String) (f:Addr→Option Obj) (a:Addr) (vs:List Value):Prop:=∃ n,f a=some (sqO t vs n)
noncomputable def SqV (t:String) (f:Addr→Option Obj) (q:List Value→Prop) (v:Value):Prop:=∃ a vs,v=.ref a∧Sq t f a vs∧q vs
noncomputable def nilV (vs:List Value):Prop:=vs=[]
noncomputable def consV (p:Value→Prop) (q:List Value→Prop) (vs:List Value):Prop:=∃ v us,vs=v::us∧p v∧q us
noncomputable def strOK (l:List Nat):Bool:=(toS l).cps.all (· < 0x110000)
noncomputable def strR (l:List Nat) (v:Value):Prop:=strOK l=true∧∃ t,v=.str (toS l) t
noncomputable def intR (i:Int) (v:Value):Prop:=∃ t,v=.int i t
noncomputable def refR (o:Option Addr) (v:Value):Prop:=∃ a,o=some a∧v=.ref a
section
variable (f:Addr→Option Obj)
noncomputable def DR:DV→Value→Prop:=DV.rec (motive_2:=fun _=>List Value→Prop) (fun v=>v=.none) (fun b v=>v=.bool b) intR strR (fun _ q=>SqV "tuple" f q) (fun _ q=>SqV "list" f q) (fun _ _=>False) nilV (fun _ _ p q=>consV p q)
noncomputable def DRL:List DV→List Value→Prop:=DV.rec_1 (motive_1:=fun _=>Value→Prop) (fun v=>v=.none) (fun b v=>v=.bool b) intR strR (fun _ q=>SqV "tuple" f q) (fun _ q=>SqV "list" f q) (fun _ _=>False) nilV (fun _ _ p q=>consV p q)
end
variable (st:St) (k:Kn)
noncomputable def instR (c:Nat) (o:Option Addr) (v:Value):Prop:=∃ x dx,v=.ref x∧o=some dx∧k.f x=some (instObj (st.clA c) dx)
noncomputable def V0:AV→Value→Prop:=AV.rec (motive_2:=fun _=>List Value→Prop) (fun d=>DR k.f d) (fun n=>refR (k.φ n)) (fun c n=>instR st k c (k.φ n)) (fun n=>refR (st.φb n)) (fun c n=>instR st k c (st.φb n)) (fun i v=>v=.ref (st.fnA i)) (fun i v=>v=.ref (st.clA i)) (fun p v=>v=pkV p) (fun _ q=>SqV "tuple" k.f q) (fun v=>∃ a,v=.ref a) nilV (fun _ _ p q=>consV p q)
noncomputable def V0L:List AV→List Value→Prop:=AV.rec_1 (motive_1:=fun _=>Value→Prop) (fun d=>DR k.f d) (fun n=>refR (k.φ n)) (fun c n=>instR st k c (k.φ n)) (fun n=>refR (st.φb n)) (fun c n=>instR st k c (st.φb n)) (fun i v=>v=.ref (st.fnA i)) (fun i v=>v=.ref (st.clA i)) (fun p v=>v=pkV p) (fun _ q=>SqV "tuple" k.f q) (fun v=>∃ a,v=.ref a) nilV (fun _ _ p q=>consV p q)
section
variable (D:Nat→DV)
noncomputable def subD:DV→DV:=DV.rec (motive_2:=fun _=>List DV) .none .bool .int .str (fun _ q=>.tup q) (fun _ q=>.lst q) D [] (fun _ _ p q=>p::q)
noncomputable def subDL:List DV→List DV:=DV.rec_1 (motive_1:=fun _=>DV) .none .bool .int .str (fun _ q=>.tup q) (fun _ q=>.lst q) D [] (fun _ _ p q=>p::q)
noncomputable def putV:AV→AV:=AV.rec (motive_2:=fun _=>List AV) (fun d=>.dat (subD D d)) .loc .inst .rloc .rinst .fn .cl .pr (fun _ q=>.mix q) .obj [] (fun _ _ p q=>p::q)
noncomputable def putVL:List AV→List AV:=AV.rec_1 (motive_1:=fun _=>AV) (fun d=>.dat (subD D d)) .loc .inst .rloc .rinst .fn .cl .pr (fun _ q=>.mix q) .obj [] (fun _ _ p q=>p::q)
end
noncomputable def VR (g:Gd) (k:Kn) (v:AV) (x:Value):Prop:=V0 g.st k (putV g.D v) x
noncomputable abbrev VRL (g:Gd) (k:Kn):List AV→List Value→Prop:=LR (VR g k)
section
variable {st:St} {g:Gd} {k k':Kn} {v:AV} {x:Value} {a:Addr} {l:List AV} {ds:List DV} {vs:List Value}
@[elab_as_elim] theorem consV.c {p:Value→Prop} {q:List Value→Prop} {X:List Value→Prop} (h:consV p q vs) (k:∀ v us,p v→q us→X (v::us)):X vs:=by obtain ⟨v,us,e,a,b⟩:=h;rw [e];exact k v us a b
@[elab_as_elim] theorem SqV.c {t:String} {f:Addr→Option Obj} {q:List Value→Prop} {X:Value→Prop} (h:SqV t f q x) (k:∀ a vs n,f a=some (sqO t vs n)→q vs→X (.ref a)):X x:=by obtain ⟨a,vs,e,⟨n,h⟩,r⟩:=h;rw [e];exact k a vs n h r
@[elab_as_elim] theorem instR.c {c:Nat} {o:Option Addr} {X:Value→Prop} (h:instR st k c o x) (j:∀ a dx,o=some dx→k.f a=some (instObj (st.clA c) dx)→X (.ref a)):X x:=by obtain ⟨a,dx,e,h,r⟩:=h;rw [e];exact j a dx h r
@[elab_as_elim] theorem refR.c {o:Option Addr} {X:Value→Prop} (h:refR o x) (j:∀ a,o=some a→X (.ref a)):X x:=by obtain ⟨a,h,e⟩:=h;rw [e];exact j a h
theorem SqV.mono {t:String} {f f':Addr→Option Obj} {q q':List Value→Prop} (hf:∀ {a o},f a=some o→f' a=some o) (hq:∀ vs,q vs→q' vs) (x:Value) (h:SqV t f q x):SqV t f' q' x:=h.c fun a vs n e r=>⟨a,vs,rfl,⟨n,hf e⟩,hq vs r⟩
theorem consV.mono {p p':Value→Prop} {q q':List Value→Prop} (hp:∀ v,p v→p' v) (hq:∀ vs,q vs→q' vs) (vs:List Value) (h:consV p q vs):consV p' q' vs:=h.c fun v us a b=>⟨v,us,rfl,hp v a,hq us b⟩
theorem refR.mono {o o':Option Addr} (h:∀ {a},o=some a→o'=some a) (x:Value) (r:refR o x):refR o' x:=r.c fun a e=>⟨a,h e,rfl⟩
theorem instR.mono {c:Nat} {o o':Option Addr} (u:KLe k k') (h:∀ {a},o=some a→o'=some a) (x:Value) (r:instR st k c o x):instR st k' c o' x:=r.c fun a dx e q=>⟨a,dx,rfl,h e,u.f q⟩
theorem DR.mono {f f':Addr→Option Obj} (hf:∀ {a o},f a=some o→f' a=some o) (d:DV):∀ x,DR f d x→DR f' d x:=DV.rec (motive_1:=fun d=>∀ x,DR f d x→DR f' d x) (motive_2:=fun l=>∀ vs,DRL f l vs→DRL f' l vs)
 (fun _ h=>h) (fun _ _ h=>h) (fun _ _ h=>h) (fun _ _ h=>h) (fun _ ih=>SqV.mono hf ih) (fun _ ih=>SqV.mono hf ih) (fun _ _ h=>h) (fun _ h=>h) (fun _ _ p q=>consV.mono p q) d
theorem V0.mono (u:KLe k k') (v:AV):∀ x,V0 st k v x→V0 st k' v x:=AV.rec (motive_1:=fun v=>∀ x,V0 st k v x→V0 st k' v x) (motive_2:=fun l=>∀ vs,V0L st k l vs→V0L st k' l vs)
 (fun d=>DR.mono u.f d) (fun _=>refR.mono u.φ) (fun _ _=>instR.mono u u.φ) (fun _ _ h=>h) (fun _ _=>instR.mono u fun e=>e) (fun _ _ h=>h) (fun _ _ h=>h) (fun _ _ h=>h) (fun _ ih=>SqV.mono u.f ih) (fun _ h=>h) (fun _ h=>h) (fun _ _ p q=>consV.mono p q) v
theorem VR.up (r:VR g k v x) (u:KLe k k'):VR g k' v x:=V0.mono u _ _ r
theorem LR.up (r:VRL g k l vs) (u:KLe k k'):VRL g k' l vs:=r.mono fun _ _ r=>r.up u
theorem datL_of:DRL k.f (subDL g.D ds) vs↔VRL g k (datL ds) vs:=by
 induction ds generalizing vs with
 | nil=>exact Iff.rfl
 | cons d ds ih=>exact ⟨consV.mono (fun _ h=>h) (fun _=>ih.mp) vs,consV.mono (fun _ h=>h) (fun _=>ih.mpr) vs⟩
theorem mixL_of:V0L g.st k (putVL g.D l) vs↔VRL g k l vs:=by
 induction l generalizing vs with
 | nil=>exact Iff.rfl
 | cons d ds ih=>exact ⟨consV.mono (fun _ h=>h) (fun _=>ih.mp) vs,consV.mono (fun _ h=>h) (fun _=>ih.mpr) vs⟩
theorem dV_eq {d:DV} (e:dV v=some d):v=.dat d:=by
 cases v with
 | dat d'=>exact congrArg AV.dat (Option.some.inj e)
 | _=>exact nos e
theorem locV_eq {n:Nat} (e:locV v=some n):v=.loc n:=by
 cases v with
 | loc d'=>exact congrArg AV.loc (Option.some.inj e)
 | _=>exact nos e
theorem rlocV_eq {n:Nat} (e:rlocV v=some n):v=.rloc n:=by
 cases v with
 | rloc d'=>exact congrArg AV.rloc (Option.some.inj e)
 | _=>exact nos e
theorem mixV_eq {m:List AV} (e:mixV v=some m):v=.mix m:=by
 cases v with
 | mix d'=>exact congrArg AV.mix (Option.some.inj e)
 | _=>exact nos e
theorem instV_eq {p:Nat×Nat} (e:instV v=some p):v=.inst p.1 p.2:=by
 cases v with
 | inst c n=>exact congrArg (fun p:Nat×Nat=>AV.inst p.1 p.2) (Option.some.inj e)
 | _=>exact nos e
theorem rinstV_eq {p:Nat×Nat} (e:rinstV v=some p):v=.rinst p.1 p.2:=by
 cases v with
 | rinst c n=>exact congrArg (fun p:Nat×Nat=>AV.rinst p.1 p.2) (Option.some.inj e)
 | _=>exact nos e
theorem fnV_eq {n:Nat} (e:fnV v=some n):v=.fn n:=by
 cases v with
 | fn d'=>exact congrArg AV.fn (Option.some.inj e)
 | _=>exact nos e
theorem clV_eq {n:Nat} (e:clV v=some n):v=.cl n:=by
 cases v with
 | cl d'=>exact congrArg AV.cl (Option.some.inj e)
 | _=>exact nos e
theorem prV_eq {n:PK} (e:prV v=some n):v=.pr n:=by
 cases v with
 | pr d'=>exact congrArg AV.pr (Option.some.inj e)
 | _=>exact nos e
section
variable {d:DV}
theorem asBool_eq {b:Bool} (e:asBool d=some b):d=.bool b:=by
 cases d with
 | bool d'=>exact congrArg DV.bool (Option.some.inj e)
 | _=>exact nos e
theorem asInt_eq {b:Int} (e:asInt d=some b):d=.int b:=by
 cases d with
 | int d'=>exact congrArg DV.int (Option.some.inj e)
 | _=>exact nos e
theorem asStr_eq {b:List Nat} (e:asStr d=some b):d=.str b:=by
 cases d with
 | str d'=>exact congrArg DV.str (Option.some.inj e)
 | _=>exact nos e
theorem asTup_eq {b:List DV} (e:asTup d=some b):d=.tup b:=by
 cases d with
 | tup d'=>exact congrArg DV.tup (Option.some.inj e)
 | _=>exact nos e
theorem asLst_eq {b:List DV} (e:asLst d=some b):d=.lst b:=by
 cases d with
 | lst d'=>exact congrArg DV.lst (Option.some.inj e)
 | _=>exact nos e
theorem isNoneD_eq (e:isNoneD d=true):d=.none:=by
 cases d with
 | none=>rfl
 | _=>exact nft e
end
theorem boolV_eq {b:Bool} (e:boolV v=some b):v=.dat (.bool b):=ob_e e fun _ e q=>by rw [dV_eq e,asBool_eq q]
theorem intV_eq {b:Int} (e:intV v=some b):v=.dat (.int b):=ob_e e fun _ e q=>by rw [dV_eq e,asInt_eq q]
theorem strV_eq {b:List Nat} (e:strV v=some b):v=.dat (.str b):=ob_e e fun _ e q=>by rw [dV_eq e,asStr_eq q]
theorem tupV_eq {b:List DV} (e:tupV v=some b):v=.dat (.tup b):=ob_e e fun _ e q=>by rw [dV_eq e,asTup_eq q]
theorem lstV_eq {b:List DV} (e:lstV v=some b):v=.dat (.lst b):=ob_e e fun _ e q=>by rw [dV_eq e,asLst_eq q]
theorem noneV_eq (e:noneV v=true):v=.dat .none:=optB_e e fun _ e q=>by rw [dV_eq e,isNoneD_eq q]
theorem boolV_r {b:Bool} (e:boolV v=some b) (r:VR g k v x):x=.bool b:=by rw [boolV_eq e] at r;exact r
theorem intV_r {b:Int} (e:intV v=some b) (r:VR g k v x):intR b x:=by rw [intV_eq e] at r;exact r
theorem strV_r {b:List Nat} (e:strV v=some b) (r:VR g k v x):strR b x:=by rw [strV_eq e] at r;exact r
theorem noneV_r (e:noneV v=true) (r:VR g k v x):x=.none:=by rw [noneV_eq e] at r;exact r
theorem lstD (r:VR g k (.dat (.lst ds)) x):SqV "list" k.f (VRL g k (datL ds)) x:=SqV.mono (fun e=>e) (fun _=>datL_of.mp) _ r
theorem tupD (r:VR g k (.dat (.tup ds)) x):SqV "tuple" k.f (VRL g k (datL ds)) x:=SqV.mono (fun e=>e) (fun _=>datL_of.mp) _ r
theorem lstV_r (e:lstV v=some ds) (r:VR g k v x):SqV "list" k.f (VRL g k (datL ds)) x:=by rw [lstV_eq e] at r;exact lstD r
theorem tupV_r (e:tupV v=some ds) (r:VR g k v x):SqV "tuple" k.f (VRL g k (datL ds)) x:=by rw [tupV_eq e] at r;exact tupD r
theorem tupI_r (e:tupI v=some l) (r:VR g k v x):SqV "tuple" k.f (VRL g k l) x:=alt_e e (fun e=>ob_e e fun _ e q=>Option.some.inj q ▸ tupV_r e r) fun e=>by
 rw [mixV_eq e] at r;exact SqV.mono (fun e=>e) (fun _=>mixL_of.mp) _ r
theorem allDat_eq {l:List AV} {ds:List DV} (e:allDat l=some ds):l=datL ds:=by
 induction l generalizing ds with
 | nil=>rw [← Option.some.inj e];rfl
 | cons a l ih=>exact ob_e e fun d e q=>ob_e q fun m e' q=>by rw [dV_eq e,ih e',← Option.some.inj q];rfl
theorem lst_mk (h:Sq "list" k.f a vs) (r:VRL g k (datL ds) vs):VR g k (.dat (.lst ds)) (.ref a):=⟨a,vs,rfl,h,datL_of.mpr r⟩
theorem tup_mk (h:Sq "tuple" k.f a vs) (r:VRL g k (datL ds) vs):VR g k (.dat (.tup ds)) (.ref a):=⟨a,vs,rfl,h,datL_of.mpr r⟩
theorem mkTup_r (h:Sq "tuple" k.f a vs) (r:VRL g k l vs):VR g k (mkTup l) (.ref a):=by
 unfold mkTup
 cases e:allDat l with
 | none=>exact ⟨a,vs,rfl,h,mixL_of.mpr r⟩
 | some ds=>exact tup_mk h (allDat_eq e ▸ r)
end
end
section
noncomputable abbrev Gd.N (g:Gd) (i:Nat):Str:=g.st.N i
noncomputable def nsE (g:Gd) (k:Kn) (p:Nat×AV) (e:DictEntry):Prop:=(∃ t,e.key=.str (g.N p.1) t)∧VR g k p.2 e.val
noncomputable def dcE (g:Gd) (k:Kn) (p:List Nat×AV) (q:Str×Value):Prop:=q.1=toS p.1∧VR g k p.2 q.2
noncomputable def DictO (st:St) (ob:Obj) (ps:List (Str×Value)):Prop:=∀ h a,Heap.get? h a=some ob→h.DictOf (PySem.strKind st.prog st.w) a ps
noncomputable def OO (g:Gd) (k:Kn) (o:AO) (ob:Obj):Prop:=AO.casesOn o (fun l=>∃ vs n,ob=sqO "list" vs n∧VRL g k l vs) (fun fs=>∃ es n,ob=W.dictOf es n∧LR (nsE g k) fs es)
 (fun kv=>∃ ps,DictO g.st ob ps∧LR (dcE g k) kv ps) True
noncomputable def Kn.adp (k:Kn) (n:Nat) (a:Addr):Kn:=⟨k.f,fun m=>if m=n then some a else k.φ m⟩
noncomputable def Kn.frz (k:Kn) (a:Addr) (ob:Obj):Kn:=⟨fun b=>if b=a then some ob else k.f b,k.φ⟩
noncomputable def Free (w:Wo) (a:Addr):Prop:=w.k.f a=none∧∀ n,w.k.φ n≠some a
structure Rep (g:Gd) (w:Wo) (H:Hp):Prop where
 obj:∀ {n o},H[n]?=some o→∃ a ob,w.k.φ n=some a∧w.h a=some ob∧OO g w.k o ob
 dom:∀ {n a},w.k.φ n=some a→n < H.length
 inj:∀ {n m a},w.k.φ n=some a→w.k.φ m=some a→n=m
 dj:∀ {n a},w.k.φ n=some a→w.k.f a=none
 fr:∀ {a o},w.k.f a=some o→w.h a=some o
 G0:∀ {a o},g.st.G0.get? a=some o→w.k.f a=some o
 base:∀ {n o},g.C.base[n]?=some o→∃ a ob,g.st.φb n=some a∧g.st.G0.get? a=none∧w.k.f a=some ob∧OO g ⟨w.k.f,fun _=>none⟩ o ob
section
variable {g:Gd} {w w':Wo} {k k':Kn} {s':Shared} {H:Hp} {o:AO} {ob:Obj} {a:Addr} {n:Nat} {t:String} {vs:List Value}
theorem nsE.up (u:KLe k k') (p:Nat×AV) (e:DictEntry) (h:nsE g k p e):nsE g k' p e:=⟨h.1,h.2.up u⟩
theorem dcE.up (u:KLe k k') (p:List Nat×AV) (e:Str×Value) (h:dcE g k p e):dcE g k' p e:=⟨h.1,h.2.up u⟩
theorem OO.up (h:OO g k o ob) (u:KLe k k'):OO g k' o ob:=by
 cases o with
 | list l=>obtain ⟨vs,n,e,r⟩:=h;exact ⟨vs,n,e,LR.up r u⟩
 | ns fs=>obtain ⟨es,n,e,r⟩:=h;exact ⟨es,n,e,r.mono (nsE.up u)⟩
 | dict kv=>obtain ⟨ps,e,r⟩:=h;exact ⟨ps,e,r.mono (dcE.up u)⟩
 | lost=>exact h
theorem adp_le (h:k.φ n=none):KLe k (k.adp n a):=⟨fun e=>e,fun {m b} e=>(if_neg fun q=>by rw [q,h] at e;exact nos e).trans e⟩
theorem frz_le (h:k.f a=none):KLe k (k.frz a ob):=⟨fun {m b} e=>(if_neg fun q=>by rw [q,h] at e;exact nos e).trans e,fun e=>e⟩
theorem frz_at:(k.frz a ob).f a=some ob:=if_pos rfl
theorem adp_at:(k.adp n a).φ n=some a:=if_pos rfl
theorem nn_none {α:Type} {o:Option α} (h:¬ ∃ a,o=some a):o=none:=by cases o with
 | none=>rfl
 | some a=>exact absurd ⟨a,rfl⟩ h
theorem Rep.top (R:Rep g w H):w.k.φ H.length=none:=nn_none fun ⟨_,e⟩=>Nat.lt_irrefl _ (R.dom e)
theorem Rep.at_ (R:Rep g w H) (e:w.k.φ n=some a):∃ ob,w.h a=some ob:=by
 obtain ⟨b,ob,e1,e2,_⟩:=R.obj (List.getElem?_eq_getElem (R.dom e))
 rw [e] at e1;exact ⟨ob,Option.some.inj e1 ▸ e2⟩
theorem Rep.get {P:Prop} (R:Rep g w H) (e:H[n]?=some o) (ea:w.k.φ n=some a) (j:∀ ob,w.h a=some ob→OO g w.k o ob→P):P:=by
 obtain ⟨b,ob,e1,e2,r⟩:=R.obj e
 rw [ea] at e1;exact j ob (Option.some.inj e1 ▸ e2) r
theorem Rep.getB {P:Prop} (R:Rep g w H) (e:g.C.base[n]?=some o) (ea:g.st.φb n=some a) (j:∀ ob,g.st.G0.get? a=none→w.h a=some ob→OO g w.k o ob→P):P:=by
 obtain ⟨b,ob,e1,e0,e2,r⟩:=R.base e
 rw [ea] at e1;have q:=Option.some.inj e1;subst q;exact j ob e0 (R.fr e2) (r.up ⟨fun e=>e,fun e=>nos e⟩)
theorem Rep.g0 (R:Rep g w H) (e:w.k.f a=none):g.st.G0.get? a=none:=nn_none fun ⟨_,q⟩=>nos (e.symm.trans (R.G0 q))
theorem Rep.gr (R:Rep g w H):∀ b o,g.st.G0.get? b=some o→w.s.heap.get? b=some o:=fun _ _ e=>R.fr (R.G0 e)
theorem Rep.new (R:Rep g w H) (e:w.h a=none):Free w a:=⟨nn_none fun ⟨_,q⟩=>nos (e.symm.trans (R.fr q)),fun n q=>let ⟨_,q⟩:=R.at_ q;nos (e.symm.trans q)⟩
theorem Rep.mv (R:Rep g w H) (K:∀ a o,¬ Free w a→w.h a=some o→s'.heap.get? a=some o):Rep g ⟨w.k,s'⟩ H :=
 ⟨fun e=>let ⟨a,ob,e1,e2,r⟩:=R.obj e;⟨a,ob,e1,K a ob (fun q=>q.2 _ e1) e2,r⟩,R.dom,R.inj,R.dj,fun e=>K _ _ (fun q=>nos (q.1.symm.trans e)) (R.fr e),R.G0,R.base⟩
theorem Rep.set (R:Rep g w H) (e:w.k.φ n=some a) (ea:s'.heap.get? a=some ob) (r:OO g w.k o ob) (K:∀ b x,b≠a→w.h b=some x→s'.heap.get? b=some x):Rep g ⟨w.k,s'⟩ (H.set n o) :=
 ⟨fun {m o'} e'=>by
  by_cases q:n=m
  ·subst q
   rw [List.getElem?_set_self (R.dom e)] at e'
   exact ⟨a,ob,e,ea,Option.some.inj e' ▸ r⟩
  ·rw [List.getElem?_set_ne q] at e'
   obtain ⟨b,ob',e1,e2,r'⟩:=R.obj e'
   exact ⟨b,ob',e1,K b ob' (fun z=>q (R.inj e (z ▸ e1))) e2,r'⟩,
  fun e=>by rw [List.length_set];exact R.dom e,R.inj,R.dj,fun {b x} e'=>K b x (fun z=>nos ((R.dj e).symm.trans (z ▸ e'))) (R.fr e'),R.G0,R.base⟩
theorem Rep.adp (R:Rep g w H) (F:Free w a) (ea:w.h a=some ob) (r:OO g (w.k.adp H.length a) o ob):Rep g ⟨w.k.adp H.length a,w.s⟩ (H++[o]):=by
 have u:KLe w.k (w.k.adp H.length a):=adp_le R.top
 have key:∀ {m b},(w.k.adp H.length a).φ m=some b→(m=H.length∧a=b)∨w.k.φ m=some b:=fun {m b} e=>by
  by_cases q:m=H.length
  ·exact .inl ⟨q,Option.some.inj ((if_pos q).symm.trans e)⟩
  ·exact .inr ((if_neg q).symm.trans e)
 refine ⟨fun {m o'} e=>?_,fun e=>?_,fun {m m' b} e e'=>?_,fun e=>?_,R.fr,R.G0,R.base⟩
 ·by_cases q:m < H.length
  ·rw [List.getElem?_append_left q] at e
   obtain ⟨b,ob',e1,e2,r'⟩:=R.obj e
   exact ⟨b,ob',u.φ e1,e2,r'.up u⟩
  ·have z:m=H.length:=Nat.le_antisymm (Nat.le_of_lt_succ (by have:=(List.getElem?_eq_some_iff.mp e).1;rwa [List.length_append] at this)) (Nat.le_of_not_lt q)
   subst z
   rw [List.getElem?_concat_length] at e
   exact ⟨a,ob,adp_at,ea,Option.some.inj e ▸ r⟩
 ·rw [List.length_append]
  rcases key e with q | q
  ·rw [q.1];exact Nat.lt_succ_self _
  ·exact Nat.lt_succ_of_lt (R.dom q)
 ·rcases key e with q | q
  ·rcases key e' with q' | q'
   ·exact q.1.trans q'.1.symm
   ·exact absurd (q.2 ▸ q') (F.2 _)
  ·rcases key e' with q' | q'
   ·exact absurd (q'.2 ▸ q) (F.2 _)
   ·exact R.inj q q'
 ·rcases key e with q | q
  ·exact q.2 ▸ F.1
  ·exact R.dj q
theorem Rep.frz (R:Rep g w H) (F:Free w a) (ea:w.h a=some ob):Rep g ⟨w.k.frz a ob,w.s⟩ H:=by
 have u:KLe w.k (w.k.frz a ob):=frz_le F.1
 refine ⟨fun e=>let ⟨a,ob,e1,e2,r⟩:=R.obj e;⟨a,ob,e1,e2,r.up u⟩,R.dom,R.inj,fun {n b} e=>(if_neg fun (q:b=a)=>F.2 n (q ▸ e)).trans (R.dj e),fun {b x} e=>?_,fun e=>u.f (R.G0 e),fun e=>let ⟨a,ob,e1,e2,e3,r⟩:=R.base e;⟨a,ob,e1,e2,u.f e3,r.up ⟨u.f,fun e=>e⟩⟩⟩
 by_cases q:b=a
 ·rw [q,← (if_pos q).symm.trans e];exact ea
 ·exact R.fr ((if_neg q).symm.trans e)
end
structure Cx where
 sc:Sc
 env:Env
 A:Around
 E:Value→Shared→Prop
noncomputable def Own (g:Gd) (c:Cx) (b:Addr):Prop:=b=c.env.locals∨∃ i,lookN c.sc i=some .cell∧c.env.cells.lookup (g.N i)=some b
structure Fs (g:Gd) (c:Cx) (sc:Sc) (dep:Nat):Prop where
 kind:c.env.scope.kind=.function
 glob:c.env.globals=mainGlobals
 bui:c.env.builtins=builtinsNs
 nlo:∀ {i},kindOfI sc i=some .lo→c.env.kindOf (g.N i)=some .local
 nce:∀ {i},kindOfI sc i=some .ce→(c.env.kindOf (g.N i)=some .cell∨c.env.kindOf (g.N i)=some .free)∧∃ a,c.env.cells.lookup (g.N i)=some a
 ngl:∀ {i},isGl sc i=true→c.env.kindOf (g.N i)=some .globalImplicit
 own:∀ {i},lookN sc i=some .cell→c.env.kindOf (g.N i)=some .cell
 inj:∀ {i j a},kindOfI sc i=some .ce→kindOfI sc j=some .ce→c.env.cells.lookup (g.N i)=some a→c.env.cells.lookup (g.N j)=some a→i=j
 hd:c.A.handled=none
 dp:c.A.depth+4 * dep+10≤recursionLimit
 un:c.A.units+16 * dep+200≤cLine
structure In (g:Gd) (c:Cx) (fm:Fm) (w:Wo) (H:Hp):Prop where
 hs:fm.sc=c.sc
 st:Fs g c fm.sc fm.dep
 R:Rep g w H
 Lf:Free w c.env.locals
 cf:∀ {i a},kindOfI fm.sc i=some .ce→c.env.cells.lookup (g.N i)=some a→a≠c.env.locals∧Free w a∧∃ o x,w.h a=some o∧o.data=.cell x
 loc:∃ m,w.s.heap.Ns c.env.locals m∧∀ {i v},lookN fm.vars i=some v→kindOfI fm.sc i=some .lo→∃ x,m (g.N i)=some x∧VR g w.k v x
 cel:∀ {i v},lookN fm.vars i=some v→kindOfI fm.sc i=some .ce→∃ a o x,c.env.cells.lookup (g.N i)=some a∧w.h a=some o∧o.data=.cell (some x)∧VR g w.k v x
structure Ex (O:Addr→Prop) (w w':Wo):Prop where
 sh:w'.s={w.s with heap:=w'.s.heap,toks:=w'.s.toks}
 ex:∀ {b},w'.h b=none→w.h b=none
 keep:∀ {b o},(∀ n,w.k.φ n≠some b)→¬ O b→w.h b=some o→w'.h b=some o
 u:KLe w.k w'.k
 nf:∀ {a o},w'.k.f a=some o→w.k.f a=some o∨w.h a=none
 nφ:∀ {n a},w'.k.φ n=some a→w.k.φ n=some a∨w.h a=none
section
variable {g:Gd} {c:Cx} {fm:Fm} {O:Addr→Prop} {w w' w'':Wo} {H H':Hp} {a:Addr} {ob:Obj}
theorem Ex.rfl:Ex O w w:=⟨Eq.refl _,fun e=>e,fun _ _ e=>e,.rfl,.inl,.inl⟩
theorem Ex.trans (x:Ex O w w') (y:Ex O w' w''):Ex O w w'' :=
 ⟨y.sh.trans (by rw [x.sh]),fun e=>x.ex (y.ex e),fun n1 n2 e=>y.keep (fun n q=>(x.nφ q).elim (n1 n) fun z=>nos (z.symm.trans e)) n2 (x.keep n1 n2 e),⟨fun e=>y.u.f (x.u.f e),fun e=>y.u.φ (x.u.φ e)⟩,
  fun e=>(y.nf e).elim x.nf fun e=>.inr (x.ex e),fun e=>(y.nφ e).elim x.nφ fun e=>.inr (x.ex e)⟩
theorem Ex.free (x:Ex O w w') {o:Obj} (e:w.h a=some o) (F:Free w a):Free w' a:=⟨nn_none fun ⟨_,q⟩=>(x.nf q).elim (fun z=>nos (F.1.symm.trans z)) fun z=>nos (z.symm.trans e),fun n q=>(x.nφ q).elim (F.2 n) fun z=>nos (z.symm.trans e)⟩
theorem Ns.at_ {h h':Heap} {L:Addr} {m:Str→Option Value} (n:h.Ns L m) (k:∀ o,h.get? L=some o→h'.get? L=some o):h'.Ns L m:=let ⟨o,es,ep,e,r⟩:=n;⟨o,es,ep,k o e,r⟩
theorem Ns.get {h:Heap} {L:Addr} {m:Str→Option Value} (n:h.Ns L m):∃ o,h.get? L=some o:=let ⟨o,_,_,e,_⟩:=n;⟨o,e⟩
theorem In.mvN (I:In g c fm w H) (x:Ex O w w') (R:Rep g w' H') (ns:∀ m,w.s.heap.Ns c.env.locals m→w'.s.heap.Ns c.env.locals m) (n:∀ {a},O a→∀ {i b},kindOfI c.sc i=some .ce→c.env.cells.lookup (g.N i)=some b→b≠a):In g c fm w' H':=by
 have kp:∀ {i b o},kindOfI fm.sc i=some .ce→c.env.cells.lookup (g.N i)=some b→w.h b=some o→w'.h b=some o:=fun h1 h2 e=>x.keep (I.cf h1 h2).2.1.2 (fun z=>n z (I.hs ▸ h1) h2 (Eq.refl _)) e
 obtain ⟨m,hn,hm⟩:=I.loc
 obtain ⟨o,e⟩:=Ns.get hn
 refine ⟨I.hs,I.st,R,x.free e I.Lf,fun h q=>?_,⟨m,ns m hn,fun h1 h2=>let ⟨x',a,b⟩:=hm h1 h2;⟨x',a,b.up x.u⟩⟩,fun h1 h2=>?_⟩
 ·obtain ⟨h1,h2,o,y,e,d⟩:=I.cf h q
  exact ⟨h1,x.free e h2,o,y,kp h q e,d⟩
 ·obtain ⟨a,o,y,q,e,d,r⟩:=I.cel h1 h2
  exact ⟨a,o,y,q,kp h2 q e,d,r.up x.u⟩
noncomputable def NotFr (g:Gd) (c:Cx) (a:Addr):Prop:=a≠c.env.locals∧∀ {i b},kindOfI c.sc i=some .ce→c.env.cells.lookup (g.N i)=some b→b≠a
theorem In.mv (I:In g c fm w H) (x:Ex O w w') (R:Rep g w' H') (n:∀ {a},O a→NotFr g c a):In g c fm w' H':=I.mvN x R (fun m q=>Ns.at_ q fun o e=>x.keep I.Lf.2 (fun z=>(n z).1 (Eq.refl _)) e) fun z=>(n z).2
noncomputable abbrev noO:Addr→Prop:=fun _=>False
theorem Ex.wk (x:Ex noO w w'):Ex O w w':=⟨x.sh,x.ex,fun a _=>x.keep a id,x.u,x.nf,x.nφ⟩
theorem In.step (I:In g c fm w H) (x:Ex noO w w') (R:Rep g w' H'):In g c fm w' H':=I.mv x R fun z=>z.elim
end
section
variable {g:Gd} {c:Cx} {fm:Fm} {O:Addr→Prop} {w w' w1:Wo} {H H':Hp} {a:Addr} {ob:Obj} {v:AV} {l:List AV} {x:Value} {vs:List Value} {tk:Nat} {h':Heap}
theorem Ex.gr (G:∀ b o,w.s.heap.get? b=some o→h'.get? b=some o):Ex noO w ⟨w.k,{w.s with heap:=h',toks:=tk}⟩ :=
 ⟨Eq.refl _,fun e=>nn_none fun ⟨_,q⟩=>nos (e.symm.trans (G _ _ q)),fun _ _ e=>G _ _ e,.rfl,.inl,.inl⟩
theorem In.gr (I:In g c fm w H) (G:∀ b o,w.s.heap.get? b=some o→h'.get? b=some o):In g c fm ⟨w.k,{w.s with heap:=h',toks:=tk}⟩ H:=I.step (.gr G) (I.R.mv fun _ _ _ e=>G _ _ e)
theorem push_gr (h:Heap) (o:Obj):∀ b x,h.get? b=some x→(h.push o).get? b=some x:=fun _ _ e=>Heap.get?_push_of_some _ e
theorem push_at (h:Heap) (n:ob.isFreed=false):(h.push ob).get? h.objs.size=some ob:=Heap.get?_push_size _ n
theorem Ex.frz (x:Ex O w w1) (F:Free w1 a) (ha:w.h a=none):Ex O w ⟨w1.k.frz a ob,w1.s⟩ :=
 ⟨x.sh,x.ex,x.keep,⟨fun {b o} e=>(if_neg fun (z:b=a)=>nos (F.1.symm.trans (z ▸ x.u.f e))).trans (x.u.f e),x.u.φ⟩,fun {b o} e=>by
  by_cases q:b=a
  ·exact .inr (q ▸ ha)
  ·exact x.nf ((if_neg q).symm.trans e),x.nφ⟩
end
end
section
noncomputable def pyD:DV→PyData:=DV.rec (motive_2:=fun _=>List PyData) .none .bool .int (fun l=>.str (toS l)) (fun _ q=>.tuple q) (fun _ q=>.list q) (fun _=>.none) [] (fun _ _ p q=>p::q)
noncomputable def pyL:List DV→List PyData:=DV.rec_1 (motive_1:=fun _=>PyData) .none .bool .int (fun l=>.str (toS l)) (fun _ q=>.tuple q) (fun _ q=>.list q) (fun _=>.none) [] (fun _ _ p q=>p::q)
noncomputable def Rd (h:Heap) (x:Value) (p:PyData):Prop:=(∃ as,Reads h x p as)∧p.canLay0=true
noncomputable def RdL (h:Heap) (vs:List Value) (p:List PyData):Prop:=(∃ as,ReadsAll h vs p as)∧PyData.canLayAll0 p=true
theorem toL_toA {vs:List Value} {h:Heap} {p:List PyData} {as:List Addr} (r:ReadsAll h vs p as):ReadsAll h vs.toArray.toList p as:=r
theorem DR.reads {f:Addr→Option Obj} {h:Heap} (hf:∀ {a o},f a=some o→h.get? a=some o) (d:DV):∀ x,DR f d x→Rd h x (pyD d):=DV.rec (motive_1:=fun d=>∀ x,DR f d x→Rd h x (pyD d)) (motive_2:=fun l=>∀ vs,DRL f l vs→RdL h vs (pyL l))
 (fun x e=>(show x=.none from e) ▸ ⟨⟨_,.none⟩,rfl⟩) (fun b x e=>(show x=.bool b from e) ▸ ⟨⟨_,.bool b⟩,rfl⟩) (fun i x r=>by obtain ⟨t,e⟩:=r;rw [e];exact ⟨⟨_,.int i t⟩,rfl⟩) (fun l x r=>by obtain ⟨o,t,e⟩:=r;rw [e];exact ⟨⟨_,.str _ t⟩,o⟩)
 (fun l ih x r=>r.c fun a vs n e q=>⟨(ih vs q).1.elim fun as ra=>⟨_,.tuple (hf e) rfl rfl ra⟩,(ih vs q).2⟩) (fun l ih x r=>r.c fun a vs n e q=>⟨(ih vs q).1.elim fun as ra=>⟨_,.list (hf e) rfl rfl ra⟩,(ih vs q).2⟩) (fun i x r=>r.elim)
 (fun vs e=>(show vs=[] from e) ▸ ⟨⟨_,.nil⟩,rfl⟩) (fun d l p q vs r=>r.c fun v us a b=>⟨(p v a).1.elim fun as ra=>(q us b).1.elim fun bs rb=>⟨_,.cons ra rb⟩,(Bool.and_eq_true ..).mpr ⟨(p v a).2,(q us b).2⟩⟩) d
theorem dep_py (d:DV):(pyD d).depth≤depD d:=DV.rec (motive_1:=fun d=>(pyD d).depth≤depD d) (motive_2:=fun l=>PyData.depthAll (pyL l)≤depL l)
 (Nat.le_refl _) (fun _=>Nat.le_refl _) (fun _=>Nat.le_refl _) (fun _=>Nat.le_refl _) (fun _ ih=>Nat.succ_le_succ ih) (fun _ ih=>Nat.succ_le_succ ih) (fun _=>Nat.zero_le _) (Nat.le_refl _)
 (fun _ _ p q=>Nat.max_le.mpr ⟨Nat.le_trans p (Nat.le_max_left ..),Nat.le_trans q (Nat.le_max_right ..)⟩) d
theorem dep_sub {D:Nat→DV} (h:∀ i,depD (D i)≤20) (d:DV):depD (subD D d)≤depD d:=DV.rec (motive_1:=fun d=>depD (subD D d)≤depD d) (motive_2:=fun l=>depL (subDL D l)≤depL l)
 (Nat.le_refl _) (fun _=>Nat.le_refl _) (fun _=>Nat.le_refl _) (fun _=>Nat.le_refl _) (fun _ ih=>Nat.succ_le_succ ih) (fun _ ih=>Nat.succ_le_succ ih) h (Nat.le_refl _)
 (fun _ _ p q=>Nat.max_le.mpr ⟨Nat.le_trans p (Nat.le_max_left ..),Nat.le_trans q (Nat.le_max_right ..)⟩) d
theorem lb_iff {a b:List Nat}:listBeq a b=true↔a=b:=by
 induction a generalizing b with
 | nil=>cases b with
  | nil=>exact ⟨fun _=>rfl,fun _=>rfl⟩
  | cons=>exact ⟨nft,nofun⟩
 | cons x a ih=>cases b with
  | nil=>exact ⟨nft,nofun⟩
  | cons y b=>exact ⟨fun h=>cond_e h fun e q=>by rw [Nat.eq_of_beq_eq_true e,ih.mp q],fun h=>by injection h with h1 h2;show cond (Nat.beq x y) (listBeq a b) false=true;rw [h1,Nat.beq_refl];exact ih.mpr h2⟩
theorem lb_dec (a b:List Nat):listBeq a b=decide (a=b):=Bool.eq_iff_iff.mpr (lb_iff.trans decide_eq_true_iff.symm)
theorem lb_toS (a b:List Nat):(toS a==toS b)=listBeq a b:=Bool.eq_iff_iff.mpr (beq_iff_eq.trans ⟨fun h=>lb_iff.mpr (toS_inj h),fun h=>congrArg toS (lb_iff.mp h)⟩)
structure TokOK [OpqE] (g:Gd):Prop where
 nn:∀ i,isNoneD (g.D i)=false
 dep:∀ i,depD (g.D i)≤20
 eqk:∀ {i j b},OpqE.eqo i j=some b→PyData.eqv (pyD (g.D i)) (pyD (g.D j))=b
section
variable [OpqE] {g:Gd}
omit [OpqE] in
theorem nOpq_e {α:Type} {P:Prop} {e:DV} {x:Option α} {r:α} (h:nOpq e x=some r) (k:asOpq e=none→x=some r→P):P:=by
 unfold nOpq at h
 cases q:asOpq e with
 | none=>rw [q] at h;exact k q h
 | some i=>rw [q] at h;exact nos h
omit [OpqE] in
theorem num_py {D:Nat→DV} {i:Int} {e:DV} {b:Bool} (h:eqNum i e=some b):PyData.eqv (.int i) (pyD (subD D e))=b:=nOpq_e h fun q h=>by
 rw [← Option.some.inj h];cases e with
 | bool b=>cases b <;> rfl
 | opq=>exact nos q.symm
 | _=>rfl
omit [OpqE] in
theorem bool_py (b:Bool) (p:PyData):PyData.eqv (.bool b) p=PyData.eqv (.int (cond b 1 0)) p:=by
 cases p with
 | bool c=>cases b <;> cases c <;> rfl
 | int c=>cases b <;> rfl
 | _=>rfl
theorem deqO_py (T:TokOK g) (d:DV):∀ e b,deqO d e=some b→PyData.eqv (pyD (subD g.D d)) (pyD (subD g.D e))=b:=DV.rec (motive_1:=fun d=>∀ e b,deqO d e=some b→PyData.eqv (pyD (subD g.D d)) (pyD (subD g.D e))=b)
 (motive_2:=fun l=>∀ r b,DV.rec_1 (motive_1:=fun _=>DV→Option Bool) (fun e=>nOpq e (some (isNoneD e))) (fun b=>eqNum (cond b 1 0)) eqNum (fun s e=>nOpq e (some (optB (asStr e) (listBeq s))))
  (fun _ q e=>nOpq e (Option.rec (some false) q (asTup e))) (fun _ q e=>nOpq e (Option.rec (some false) q (asLst e))) (fun i e=>ob (asOpq e) (OpqE.eqo i))
  (fun r=>some r.isEmpty) (fun _ _ p q r=>List.rec (some false) (fun e r _=>ob (p e) fun t=>cond t (q r) (some false)) r) l r=some b→PyData.eqvAll (pyL (subDL g.D l)) (pyL (subDL g.D r))=b)
 (fun e b h=>nOpq_e h fun q h=>by
  rw [← Option.some.inj h];cases e with
  | opq=>exact nos q.symm
  | _=>rfl)
 (fun c e b h=>(bool_py c _).trans (num_py h)) (fun i e b h=>num_py h)
 (fun s e b h=>nOpq_e h fun q h=>by
  rw [← Option.some.inj h];cases e with
  | str t=>exact lb_toS s t
  | opq=>exact nos q.symm
  | _=>rfl)
 (fun l ih e b h=>nOpq_e h fun q h=>by
  cases e with
  | tup r=>exact ih r b h
  | opq=>exact nos q.symm
  | _=>exact Option.some.inj h)
 (fun l ih e b h=>nOpq_e h fun q h=>by
  cases e with
  | lst r=>exact ih r b h
  | opq=>exact nos q.symm
  | _=>exact Option.some.inj h)
 (fun i e b h=>ob_e h fun j q h2=>by
  cases e with
  | opq r=>rw [← Option.some.inj q] at h2;exact T.eqk h2
  | _=>exact nos q)
 (fun r b h=>by cases r <;> exact Option.some.inj h)
 (fun d l p q r b h=>by
  cases r with
  | nil=>exact Option.some.inj h
  | cons e r =>
   exact ob_e (o:=deqO d e) h fun t z h=>by
    show (PyData.eqv (pyD (subD g.D d)) (pyD (subD g.D e))&&PyData.eqvAll (pyL (subDL g.D l)) (pyL (subDL g.D r)))=b
    rw [p e t z];cases t with
    | false=>exact Option.some.inj h
    | true=>exact q r b h) d
theorem anyEq_py (T:TokOK g) {d:DV} {l:List DV}:∀ {b:Bool},anyEqO d l=some b→((pyL (subDL g.D l)).any fun y=>PyData.eqv y (pyD (subD g.D d)))=b:=by
 induction l with
 | nil=>exact Option.some.inj
 | cons a l ih =>
  exact fun {b} h=>ob_e (o:=deqO a d) h fun t z h=>by
   show (PyData.eqv (pyD (subD g.D a)) (pyD (subD g.D d))||(pyL (subDL g.D l)).any fun y=>PyData.eqv y (pyD (subD g.D d)))=b
   rw [deqO_py T a d t z];cases t with
   | false=>exact ih h
   | true=>exact Option.some.inj h
end
noncomputable def Wp (g:Gd) (c:Cx) {α:Type} (p:Sem α) (Q:α→Shared→Prop) (w:Wo):Prop:=wpAny (model g.st.prog g.st.w) c.A p Q c.E w.s
noncomputable def We (g:Gd) (c:Cx) (x:MX) (Q:Value→Shared→Prop) (w:Wo):Prop:=Wp g c (eval (untr g.N x) c.env) Q w
section
variable (g:Gd) (c:Cx) (fm:Fm) (H:Hp)
noncomputable def Po (v:AV) (Q:Value→Shared→Prop) (w:Wo):Prop:=∀ w' x,Ex (Own g c) w w'→In g c fm w' H→VR g w'.k v x→Q x w'.s
noncomputable def PoL (l:List AV) (Q:List Value→Shared→Prop) (w:Wo):Prop:=∀ w' x,Ex (Own g c) w w'→In g c fm w' H→VRL g w'.k l x→Q x w'.s
noncomputable def PoB (b:Bool) (Q:Bool→Shared→Prop) (w:Wo):Prop:=∀ w',Ex (Own g c) w w'→In g c fm w' H→Q b w'.s
noncomputable def PoN (l:List AV) (Q:Value→Shared→Prop) (w:Wo):Prop:=∀ w' a vs,Ex (Own g c) w w'→In g c fm w' H→Sq "list" w'.h a vs→VRL g w'.k l vs→Free w' a→w.h a=none→Q (.ref a) w'.s
noncomputable def PoR (r:Res) (Q:Value→Shared→Prop) (w:Wo):Prop:=Res.casesOn r (fun v=>Po g c fm H v Q w) (fun l=>PoN g c fm H l Q w)
end
section
variable {g:Gd} {c:Cx} {fm:Fm} {w w1:Wo} {H H':Hp} {a:Addr} {v:AV} {l:List AV} {x:Value} {vs:List Value} {tk:Nat} {h':Heap} {Q:Value→Shared→Prop} {r:Res} {n:Nat}
theorem Po.nx (P:Po g c fm H v Q w) (X:Ex (Own g c) w w1):Po g c fm H v Q w1:=fun w' x Y=>P w' x (X.trans Y)
theorem PoN.nx (P:PoN g c fm H l Q w) (X:Ex (Own g c) w w1):PoN g c fm H l Q w1:=fun w' a vs Y I s r F e=>P w' a vs (X.trans Y) I s r F (X.ex e)
theorem PoR.nx (P:PoR g c fm H r Q w) (X:Ex (Own g c) w w1):PoR g c fm H r Q w1:=by
 cases r with
 | val v=>exact Po.nx P X
 | newl l=>exact PoN.nx P X
theorem Po.gr (P:Po g c fm H v Q w) (I:In g c fm w H) (G:∀ b o,w.s.heap.get? b=some o→h'.get? b=some o) (r:VR g w.k v x):Q x {w.s with heap:=h',toks:=tk}:=P ⟨w.k,_⟩ x (Ex.gr G).wk (I.gr G) r
theorem Po.tik (P:Po g c fm H v Q w) (I:In g c fm w H) (r:VR g w.k v x):Q x {w.s with toks:=tk}:=P.gr I (fun _ _ e=>e) r
theorem In.new (I:In g c fm w H) (e:w.h a=none):Free w a:=I.R.new e
theorem In.nw (I:In g c fm w H) (e:w.h a=none):NotFr g c a:=by
 obtain ⟨m,ns,_⟩:=I.loc
 obtain ⟨o,eo⟩:=Ns.get ns
 refine ⟨fun q=>nos (e.symm.trans (q ▸ eo)),fun h1 h2 q=>?_⟩
 obtain ⟨_,_,o,_,eo,_⟩:=I.cf (I.hs.symm ▸ h1) h2
 exact nos (e.symm.trans (q ▸ eo))
theorem In.no (I:In g c fm w H) (e:w.h a=none):¬ Own g c a:=fun q=>by
 rcases q with q | ⟨i,q1,q2⟩
 ·exact (I.nw e).1 q
 ·exact (I.nw e).2 (i:=i) (congrArg (fun o=>ob o vkOf) q1) q2 rfl
theorem In.e (I:In g c fm w H) (E:Value→Shared→Prop):In g {c with E:=E} fm w H :=
 ⟨I.hs,⟨I.st.kind,I.st.glob,I.st.bui,I.st.nlo,I.st.nce,I.st.ngl,I.st.own,I.st.inj,I.st.hd,I.st.dp,I.st.un⟩,I.R,I.Lf,I.cf,I.loc,I.cel⟩
theorem In.kn {k':Kn} (I:In g c fm w H) (R:Rep g ⟨k',w.s⟩ H') (u:KLe w.k k') (F:∀ b,b≠a→Free w b→Free ⟨k',w.s⟩ b) (n:NotFr g c a):In g c fm ⟨k',w.s⟩ H' :=
 ⟨I.hs,I.st,R,F _ n.1.symm I.Lf,fun h1 h2=>let q:=I.cf h1 h2;⟨q.1,F _ (n.2 (I.hs ▸ h1) h2) q.2.1,q.2.2⟩,I.loc.elim fun m q=>⟨m,q.1,fun h1 h2=>(q.2 h1 h2).elim fun x q=>⟨x,q.1,q.2.up u⟩⟩,
  fun h1 h2=>by obtain ⟨a,o,x,e1,e2,e3,r⟩:=I.cel h1 h2;exact ⟨a,o,x,e1,e2,e3,r.up u⟩⟩
theorem Free.frz {b:Addr} {ob:Obj} (n:b≠a) (F:Free w b):Free ⟨w.k.frz a ob,w.s⟩ b:=⟨(if_neg n).trans F.1,F.2⟩
theorem Free.adp {b:Addr} (n:b≠a) {m:Nat} (F:Free w b):Free ⟨w.k.adp m a,w.s⟩ b:=⟨F.1,fun j q=>by
 by_cases z:j=m
 ·exact n (Option.some.inj ((if_pos z).symm.trans q)).symm
 ·exact F.2 j ((if_neg z).symm.trans q)⟩
theorem Ex.adp {O:Addr→Prop} {m:Nat} (x:Ex O w w1) (h:w1.k.φ m=none) (ha:w.h a=none):Ex O w ⟨w1.k.adp m a,w1.s⟩ :=
 ⟨x.sh,x.ex,x.keep,⟨x.u.f,fun e=>(adp_le h).φ (x.u.φ e)⟩,x.nf,fun {j b} e=>by
  by_cases q:j=m
  ·exact .inr (Option.some.inj ((if_pos q).symm.trans e) ▸ ha)
  ·exact x.nφ ((if_neg q).symm.trans e)⟩
theorem Po.frz {ob:Obj} (P:Po g c fm H v Q w) (I0:In g c fm w H') (X:Ex (Own g c) w w1) (I:In g c fm w1 H) (F:Free w1 a) (ha:w.h a=none) (e:w1.h a=some ob) (r:VR g (w1.k.frz a ob) v x):Q x w1.s :=
 P ⟨w1.k.frz a ob,w1.s⟩ x (X.frz F ha) (I.kn (I.R.frz F e) (frz_le F.1) (fun _ n F=>F.frz n) (I0.nw ha)) r
theorem Po.adp {ob:Obj} {o:AO} (P:Po g c fm (H++[o]) v Q w) (I0:In g c fm w H') (X:Ex (Own g c) w w1) (I:In g c fm w1 H) (F:Free w1 a) (ha:w.h a=none) (e:w1.h a=some ob) (ro:OO g (w1.k.adp H.length a) o ob) (r:VR g (w1.k.adp H.length a) v x):Q x w1.s :=
 P ⟨w1.k.adp H.length a,w1.s⟩ x (X.adp I.R.top ha) (I.kn (I.R.adp F e ro) (adp_le I.R.top) (fun _ n F=>F.adp n) (I0.nw ha)) r
theorem Po.loc {ob:Obj} {o:AO} (P:Po g c fm (H++[o]) (.loc H.length) Q w) (I0:In g c fm w H') (X:Ex (Own g c) w w1) (I:In g c fm w1 H) (F:Free w1 a) (ha:w.h a=none) (e:w1.h a=some ob) (ro:OO g (w1.k.adp H.length a) o ob):Q (.ref a) w1.s :=
 P.adp I0 X I F ha e ro ⟨a,adp_at,rfl⟩
theorem Ex.but {O:Addr→Prop} (hs:Heap.SameBut a w.s.heap h') (hx:∃ o,h'.get? a=some o) (hO:O a):Ex O w ⟨w.k,{w.s with heap:=h',toks:=tk}⟩ :=
 ⟨Eq.refl _,fun {b} e=>by
  by_cases q:b=a
  ·rw [q] at e;exact hx.elim fun o z=>nos (e.symm.trans z)
  ·exact (hs.2 b q).symm.trans e,fun {b o} _ n e=>(hs.2 b fun (z:b=a)=>n (z ▸ hO)).trans e,.rfl,.inl,.inl⟩
theorem Rep.but (R:Rep g w H) (F:Free w a) (hs:Heap.SameBut a w.s.heap h'):Rep g ⟨w.k,{w.s with heap:=h',toks:=tk}⟩ H:=R.mv fun b o q e=>(hs.2 b fun z=>q (z ▸ F)).trans e
theorem In.poke (I:In g c fm w H) (F:Free w a) (n:NotFr g c a) (hs:Heap.SameBut a w.s.heap h') (hx:∃ o,h'.get? a=some o) :
  Ex (·=a) w ⟨w.k,{w.s with heap:=h',toks:=tk}⟩∧In g c fm ⟨w.k,{w.s with heap:=h',toks:=tk}⟩ H :=
 ⟨Ex.but hs hx rfl,I.mv (O:=(·=a)) (Ex.but hs hx rfl) (I.R.but F hs) fun z=>z ▸ n⟩
theorem Ex.own {O X:Addr→Prop} {w':Wo} (x:Ex O w w1) (y:Ex (fun b=>O b∨X b) w1 w') (hX:∀ b,X b→w.h b=none):Ex O w w' :=
 ⟨y.sh.trans (by rw [x.sh]),fun e=>x.ex (y.ex e),fun n1 n2 e=>y.keep (fun n q=>(x.nφ q).elim (n1 n) fun z=>nos (z.symm.trans e)) (fun z=>z.elim n2 fun z=>nos ((hX _ z).symm.trans e)) (x.keep n1 n2 e),⟨fun e=>y.u.f (x.u.f e),fun e=>y.u.φ (x.u.φ e)⟩,
  fun e=>(y.nf e).elim x.nf fun e=>.inr (x.ex e),fun e=>(y.nφ e).elim x.nφ fun e=>.inr (x.ex e)⟩
theorem Ex.fin {O X:Addr→Prop} (x:Ex O w w1) (K:∀ b o,¬ X b→w1.h b=some o→h'.get? b=some o) (hX:∀ b,X b→w.h b=none):Ex O w ⟨w1.k,{w1.s with heap:=h',toks:=tk}⟩ :=
 ⟨(show _=_ by rw [x.sh]),fun {b} e=>Classical.byContradiction fun n=>(nn_of n).elim fun o e0=>(Classical.em (X b)).elim (fun q=>n (hX b q)) fun q=>n (x.ex (nn_none fun ⟨_,z⟩=>nos (e.symm.trans (K b _ q z)))),
  fun n1 n2 e=>K _ _ (fun q=>nos ((hX _ q).symm.trans e)) (x.keep n1 n2 e),x.u,x.nf,x.nφ⟩
theorem In.kp {X:Addr→Prop} (I:In g c fm w H) (K:∀ b o,¬ X b→w.h b=some o→h'.get? b=some o) (n:∀ {b},X b→NotFr g c b) (F:∀ {b},X b→Free w b):In g c fm ⟨w.k,{w.s with heap:=h',toks:=tk}⟩ H:=by
 obtain ⟨m,ns,hm⟩:=I.loc
 have R:=I.R.mv (s':={w.s with heap:=h',toks:=tk}) fun b o q e=>K b o (fun z=>q (F z)) e
 refine ⟨I.hs,I.st,R,I.Lf,fun h1 h2=>?_,⟨m,Ns.at_ ns fun o e=>K _ _ (fun q=>(n q).1 rfl) e,hm⟩,fun h1 h2=>?_⟩
 ·obtain ⟨q1,q2,o,y,e,d⟩:=I.cf h1 h2
  exact ⟨q1,q2,o,y,K _ _ (fun q=>(n q).2 (I.hs ▸ h1) h2 rfl) e,d⟩
 ·obtain ⟨b,o,y,q,e,d,r⟩:=I.cel h1 h2
  exact ⟨b,o,y,q,K _ _ (fun z=>(n z).2 (I.hs ▸ h2) q rfl) e,d,r⟩
theorem Ex.wk' {O O':Addr→Prop} (x:Ex O w w1) (h:∀ b,O b→O' b):Ex O' w w1:=⟨x.sh,x.ex,fun a n=>x.keep a fun z=>n (h _ z),x.u,x.nf,x.nφ⟩
theorem putRes_ok {loc:Bool} (e:putRes loc r H=some (v,H')) {H0:Hp} (I0:In g c fm w H0) (P:Po g c fm H' v Q w):PoR g c fm H r Q w:=by
 cases r with
 | val v'=>exact gb_e e fun _ e=>pr_e e fun e1 e2=>by rw [e1,e2];exact P
 | newl l =>
  intro w' a vs X I s r F ha
  obtain ⟨n,s⟩:=s
  cases loc with
  | false =>
   exact ob_e (o:=allDat l) e fun ds ed q=>pr_e q fun e1 e2=>by
    subst e1;subst e2
    exact P.frz I0 X I F ha s (lst_mk ⟨n,frz_at⟩ (allDat_eq ed ▸ LR.up r (frz_le F.1)))
  | true =>
   exact pr_e e fun e1 e2=>by
    subst e1;subst e2
    exact P.loc I0 X I F ha s ⟨vs,n,rfl,LR.up r (adp_le I.R.top)⟩
theorem Po.tupX (P:Po g c fm H v Q w) (I:In g c fm w H) (r:VRL g w.k l vs) (m:∀ {k:Kn} {a},Sq "tuple" k.f a vs→VRL g k l vs→VR g k v (.ref a)):Q (.ref w.s.heap.objs.size) {w.s with heap:=w.s.heap.push (sqO "tuple" vs 0),toks:=tk} :=
 P.frz I (Ex.gr (push_gr _ _)).wk (I.gr (push_gr _ _)) (I.new (size_none _)) (size_none _) (push_at _ rfl) (m ⟨0,frz_at⟩ (LR.up r (frz_le (I.new (size_none _)).1)))
theorem Po.tup (P:Po g c fm H (mkTup l) Q w) (I:In g c fm w H) (r:VRL g w.k l vs):Q (.ref w.s.heap.objs.size) {w.s with heap:=w.s.heap.push (sqO "tuple" vs 0),toks:=tk} :=
 P.tupX I r mkTup_r
theorem PoN.lst (P:PoN g c fm H l Q w) (I:In g c fm w H) (r:VRL g w.k l vs):Q (.ref w.s.heap.objs.size) {w.s with heap:=w.s.heap.push (sqO "list" vs 0),toks:=tk} :=
 P ⟨w.k,_⟩ _ vs (Ex.gr (push_gr _ _)).wk (I.gr (push_gr _ _)) ⟨0,push_at _ rfl⟩ r (I.new (size_none _)) (size_none _)
end
end
section
noncomputable def GlobAt (st:St) (i:Nat) (rv:Value):Prop:=∀ (A:Around) (E:Value→Shared→Prop) (s:Shared) (Q:Value→Shared→Prop) (env:Env) (pos:Pos),env.scope.kind=.function→env.globals=mainGlobals→env.builtins=builtinsNs→env.kindOf (st.N i)=some .globalImplicit →
  (∀ b o,st.G0.get? b=some o→s.heap.get? b=some o)→Q rv s→wpAny (model st.prog st.w) A (eval (.Name (st.N i) pos) env) Q E s
structure GdOK (g:Gd):Prop where
 sys:∀ {x},g.st.G0.get? x=none→(x==sysModules)=false
 inj:∀ {i j},g.N i=g.N j→i=j
 dbg:∀ i,(g.N i==("__debug__":Str))=false
 cdj:∀ i,(g.N i==("__classdict__":Str))=false
 cd:∀ i,toS (g.C.cd i)=g.N i
 cdo:∀ i,strOK (g.C.cd i)=true
 glo:∀ {i v},g.C.gl i=some v→∃ x,GlobAt g.st i x∧∀ {k:Kn},(∀ {b o},g.st.G0.get? b=some o→k.f b=some o)→VR g k v x
 rng:GlobAt g.st g.st.I.range (.type "range")
 zpn:GlobAt g.st g.st.I.zip (.type "zip")
 enm:GlobAt g.st g.st.I.enum (.type "enumerate")
 kin:g.st.K.In g.st.G0
 lim:g.st.G0.NoLimit
 att:∀ {c nm},hasAttr g.C c nm=true→plainGet g.st.K (g.st.clA c) (g.N nm)=true∧hasDictIn g.st.K (g.st.clA c)=true∧(∃ a,findIn g.st.K (.ref (g.st.clA c)) (g.N nm)=some a∧noGet g.st.K a=true) ∧
  findIn g.st.K (.ref (g.st.clA c)) "__setattr__" = some (some (.builtin "object.__setattr__"))∧plainOver g.st.K (g.st.clA c)=true∧takerIn g.st.K (g.st.clA c) (g.N nm)=some none
 met:∀ {c ci nm f},g.C.cl c=some ci→lookN ci.meths nm=some f→plainGet g.st.K (g.st.clA c) (g.N nm)=true∧findIn g.st.K (.ref (g.st.clA c)) (g.N nm)=some (some (.ref (g.st.fnA f)))∧isFn g.st.K (.ref (g.st.fnA f))=true
 mak:∀ {c ci},g.C.cl c=some ci→makesIn g.st.K (g.st.clA c)=true∧findIn g.st.K (.ref (g.st.clA c)) "__init__" = some (some (.ref (g.st.fnA ci.init)))∧isFn g.st.K (.ref (g.st.fnA ci.init))=true
 kef:∀ {k},(g.C.fn k).isSome=true→keepIn g.st.K (.ref (g.st.fnA k))=true
 kec:∀ {c},(g.C.cl c).isSome=true→keepIn g.st.K (.ref (g.st.clA c))=true
section
variable {g:Gd} {c:Cx} {fm:Fm} {w w1:Wo} {H H':Hp} {a b v:AV} {l:List AV} {x xa xb:Value} {vs:List Value} {tk:Nat} {Q:Value→Shared→Prop} {r:Res} {n:Nat} {s:List Nat}
theorem skey (h:strR s x):(PySem.strKind g.st.prog g.st.w).is (toS s) x=true:=by obtain ⟨_,t,e⟩:=h;rw [e];exact beq_self_eq_true (toS s)
noncomputable def optR {α β:Type} (P:α→β→Prop) (o:Option α) (q:Option β):Prop:=Option.rec (q=none) (fun a=>∃ b,q=some b∧P a b) o
theorem optR.isSome {α β:Type} {P:α→β→Prop} {o:Option α} {q:Option β} (h:optR P o q):q.isSome=o.isSome:=by
 cases o with
 | none=>exact congrArg Option.isSome (show q=none from h)
 | some a=>exact h.elim fun b h=>congrArg Option.isSome h.1
theorem optR.get {α β:Type} {P:α→β→Prop} {o:Option α} {q:Option β} {a:α} (h:optR P o q) (e:o=some a):∃ b,q=some b∧P a b:=by rw [e] at h;exact h
theorem dc_find {k:Kn} {es:List (List Nat×AV)} {ps:List (Str×Value)} (r:LR (dcE g k) es ps) (s:List Nat):optR (VR g k) (lookS es s) (valueAt ps (toS s)):=by
 induction es generalizing ps with
 | nil=>exact r.n rfl
 | cons p es ih =>
  refine r.c fun q us h r=>?_
  show optR _ (cond (listBeq p.1 s) (some p.2) (lookS es s)) (((q::us).find? _).map (·.2))
  rw [List.find?_cons]
  by_cases z:p.1=s
  ·rw [lb_iff.mpr z,decide_eq_true (h.1.trans (congrArg toS z))];exact ⟨_,rfl,h.2⟩
  ·rw [Bool.eq_false_iff.mpr fun y=>z (lb_iff.mp y),decide_eq_false fun y=>z (toS_inj (h.1.symm.trans y))];exact ih r
theorem dictAt_r {P:Prop} {es:List (List Nat×AV)} (e:dictAt g.C.base H b=some es) (I:In g c fm w H) (r:VR g w.k b x) (k:∀ a ob ps,x=.ref a→g.st.G0.get? a=none→w.h a=some ob→DictO g.st ob ps→LR (dcE g w.k) es ps→P):P:=by
 have dO_eq:∀ {o:Option AO} {es},dO o=some es→o=some (.dict es):=fun {o es} e=>ob_e e fun q e h=>by
  rw [e];cases q with
  | dict d=>exact congrArg (fun x=>some (AO.dict x)) (Option.some.inj h)
  | _=>exact nos h
 refine alt_e e (fun e=>ob_e e fun n e q=>?_) fun e=>ob_e e fun n e q=>?_
 ·rw [rlocV_eq e] at r
  obtain ⟨a,ea,rfl⟩:=r
  exact I.R.getB (dO_eq q) ea fun ob e0 e1 h=>h.elim fun ps h=>k a ob ps rfl e0 e1 h.1 h.2
 ·rw [locV_eq e] at r
  obtain ⟨a,ea,rfl⟩:=r
  exact I.R.get (dO_eq q) ea fun ob e1 h=>h.elim fun ps h=>k a ob ps rfl (I.R.g0 (I.R.dj ea)) e1 h.1 h.2
theorem lO_eq {o:Option AO} (e:lO o=some l):o=some (.list l):=ob_e e fun q e h=>by
 rw [e];cases q with
 | list d=>exact congrArg (fun x=>some (AO.list x)) (Option.some.inj h)
 | _=>exact nos h
theorem loc_list (e:lO H[n]?=some l) (I:In g c fm w H) (r:VR g w.k (.loc n) x):SqV "list" w.h (VRL g w.k l) x:=by
 obtain ⟨a,ea,rfl⟩:=r
 exact I.R.get (lO_eq e) ea fun ob e1 h=>by obtain ⟨vs,n,rfl,h⟩:=h;exact ⟨a,vs,rfl,⟨n,e1⟩,h⟩
theorem lstOf_r (e:lstOf H a=some l) (I:In g c fm w H) (r:VR g w.k a x):SqV "list" w.h (VRL g w.k l) x :=
 alt_e e (fun e=>ob_e e fun ds e q=>Option.some.inj q ▸ SqV.mono I.R.fr (fun _ h=>h) _ (lstV_r e r)) fun e=>ob_e e fun n e q=>loc_list q I (locV_eq e ▸ r)
theorem seqOf_r {P:Value→Prop} (e:seqOf H a=some l) (I:In g c fm w H) (r:VR g w.k a x) (k1:∀ a vs n,w.h a=some (sqO "list" vs n)→VRL g w.k l vs→P (.ref a)) (k2:∀ a vs n,w.h a=some (sqO "tuple" vs n)→VRL g w.k l vs→P (.ref a)):P x :=
 alt_e e (fun e=>(lstOf_r e I r).c k1) fun e=>(tupI_r e r).c fun a vs n h=>k2 a vs n (I.R.fr h)
theorem sq_list {h:Heap} {a:Addr} {vs:List Value} {n:Nat} (e:h.get? a=some (sqO "list" vs n)):h.IsList a vs.toArray:=⟨_,e,rfl,n,rfl⟩
theorem sq_tuple {h:Heap} {a:Addr} {vs:List Value} {n:Nat} (e:h.get? a=some (sqO "tuple" vs n)):h.IsTuple a vs.toArray:=⟨_,e,rfl,n,rfl⟩
theorem un64 (I:In g c fm w H):c.A.units+64 < cLine:=Nat.lt_of_lt_of_le (Nat.lt_of_lt_of_le (Nat.add_lt_add_left (by decide:64 < 200) _) (Nat.add_le_add_right (Nat.le_add_right _ _) _)) I.st.un
theorem un66 (I:In g c fm w H):c.A.units+1+64 < cLine:=Nat.lt_of_lt_of_le (Nat.lt_of_lt_of_le (by rw [Nat.add_assoc];exact Nat.add_lt_add_left (by decide) _) (Nat.add_le_add_right (Nat.le_add_right _ _) _)) I.st.un
theorem un0 (I:In g c fm w H):c.A.units < cLine:=Nat.lt_of_le_of_lt (Nat.le_add_right _ _) (un64 I)
section
variable [OpqE]
theorem shaped_of (T:TokOK g) {d:DV} {h:Heap} (r:Rd h x (pyD (subD g.D d))) (q:le (depD d) 64=true):shaped (pyD (subD g.D d))=true:=(Bool.and_eq_true ..).mpr ⟨r.2,decide_eq_true (Nat.le_trans (dep_py _) (Nat.le_trans (dep_sub T.dep d) (Nat.le_of_ble_eq_true q)))⟩
theorem eqV_r (T:TokOK g) {P:Bool→Prop} {t:Bool} (e:eqV H a b=some t) (I:In g c fm w H) (ra:VR g w.k a xa) (rb:VR g w.k b xb)
  (k1:∀ as bs p q,Reads w.s.heap xa p as→Reads w.s.heap xb q bs→shaped p=true→shaped q=true→P (PyData.eqv p q))
  (k2:∀ a b vs,xa=.ref a→xb=.ref b→w.s.heap.IsList a (List.toArray vs)→w.s.heap.IsList b #[]→P vs.isEmpty):P t :=
 ob_e e fun d2 e2 e=>alt_e e (fun e=>ob_e e fun d1 e1 e=>gb_e e fun q e=>and_e q fun q1 q2=>by
  rw [dV_eq e1] at ra;rw [dV_eq e2] at rb
  have r1:=DR.reads I.R.fr _ _ ra
  have r2:=DR.reads I.R.fr _ _ rb
  rw [← deqO_py T _ _ _ e]
  exact r1.1.elim fun as h1=>r2.1.elim fun bs h2=>k1 as bs _ _ h1 h2 (shaped_of T r1 q1) (shaped_of T r2 q2))
  fun e=>gb_e e fun q e=>optB_e q fun m em q=>ob_e e fun n e1 e=>ob_e e fun l el e=>by
  rw [dV_eq e2,asLst_eq em,List.isEmpty_iff.mp q] at rb
  obtain ⟨b,us,rfl,⟨n2,hb⟩,hu⟩:=rb
  have hu:us=[]:=hu
  subst hu
  obtain ⟨a,vs,rfl,⟨n1,ha⟩,hv⟩:=loc_list el I (locV_eq e1 ▸ ra)
  rw [← Option.some.inj e]
  have z:l.isEmpty=vs.isEmpty:=by cases l with
   | nil=>exact LR.n hv rfl
   | cons=>exact LR.c hv fun _ _ _ _=>rfl
  rw [z];exact k2 a b vs rfl rfl (sq_list ha) (sq_list (I.R.fr hb))
theorem inL_r (T:TokOK g) {ds:List DV} {t:Bool} (e:inL a ds=some t) (I:In g c fm w H) (ra:VR g w.k a xa):∃ p as,Reads w.s.heap xa p as∧p.canLay0=true∧((pyL (subDL g.D ds)).any fun y=>PyData.eqv y p)=t∧c.A.units+1+min (PyData.depthAll (pyL (subDL g.D ds))) p.depth < cLine :=
 ob_e e fun d e1 e=>gb_e e fun q e=>and_e q fun q1 q2=>by
  rw [dV_eq e1] at ra
  have r1:=DR.reads I.R.fr _ _ ra
  obtain ⟨as,h1⟩:=r1.1
  exact ⟨_,as,h1,r1.2,anyEq_py T e,Nat.lt_of_le_of_lt (Nat.add_le_add_left (Nat.le_trans (Nat.min_le_right _ _) (Nat.le_trans (dep_py _) (Nat.le_trans (dep_sub T.dep d) (Nat.le_of_ble_eq_true q1)))) _) (un66 I)⟩
omit [OpqE] in
theorem readsL (I:In g c fm w H) {ds:List DV} (r:VRL g w.k (datL ds) vs):RdL w.s.heap vs (pyL (subDL g.D ds)):=by
 induction ds generalizing vs with
 | nil=>exact r.n ⟨⟨_,.nil⟩,rfl⟩
 | cons d ds ih=>exact r.c fun v us a b=>⟨(DR.reads I.R.fr _ _ a).1.elim fun as ra=>(ih b).1.elim fun bs rb=>⟨_,.cons ra rb⟩,(Bool.and_eq_true ..).mpr ⟨(DR.reads I.R.fr _ _ a).2,(ih b).2⟩⟩
theorem inV_r (T:TokOK g) {P:Bool→Prop} {t:Bool} (e:inV g.C.base H a b=some t) (I:In g c fm w H) (ra:VR g w.k a xa) (rb:VR g w.k b xb)
  (k1:∀ d ps s,xb=.ref d→g.st.G0.get? d=none→w.s.heap.DictOf (PySem.strKind g.st.prog g.st.w) d ps→(PySem.strKind g.st.prog g.st.w).is s xa=true→P (valueAt ps s).isSome)
  (k2:∀ as bs p ps,Reads w.s.heap xb (.tuple ps) as→Reads w.s.heap xa p bs→PyData.canLayAll0 ps=true→p.canLay0=true→c.A.units+1+min (PyData.depthAll ps) p.depth < cLine→P (ps.any fun y=>PyData.eqv y p))
  (k3:∀ as bs p ps,Reads w.s.heap xb (.list ps) as→Reads w.s.heap xa p bs→PyData.canLayAll0 ps=true→p.canLay0=true→c.A.units+1+min (PyData.depthAll ps) p.depth < cLine→P (ps.any fun y=>PyData.eqv y p)):P t:=by
 refine alt_e e (fun e=>ob_e e fun es e1 e=>ob_e e fun s e2 e=>?_) fun e=>alt_e e (fun e=>ob_e e fun ds e1 e=>?_) fun e=>ob_e e fun l e1 e=>ob_e e fun ds e2 e=>?_
 ·refine dictAt_r e1 I rb fun d ob ps ed e0 eh hd r=>?_
  rw [← Option.some.inj e,← (dc_find r s).isSome]
  exact k1 d ps _ ed e0 (hd _ _ eh) (skey (strV_r e2 ra))
 ·obtain ⟨p,as,h1,h2,h3,h4⟩:=inL_r T e I ra
  rw [tupV_eq e1] at rb
  have r:=DR.reads I.R.fr (.tup (subDL g.D ds)) _ rb
  rw [← h3]
  exact r.1.elim fun bs hb=>k2 bs as p _ hb h1 r.2 h2 h4
 ·obtain ⟨p,as,h1,h2,h3,h4⟩:=inL_r T e I ra
  obtain ⟨a,vs,rfl,⟨n,ha⟩,hv⟩:=lstOf_r e1 I rb
  rw [allDat_eq e2] at hv
  have r:=readsL I hv
  rw [← h3]
  exact r.1.elim fun bs hb=>k3 _ as p _ (.list ha rfl rfl hb) h1 r.2 h2 h4
theorem val_none (T:TokOK g) (r:VR g w.k a x):(x==.none)=noneV a:=by
 cases a with
 | dat d =>
  have key:∀ {d},DR w.k.f d x→(x==.none)=isNoneD d:=fun {d} r=>by
   cases d with
   | none=>rw [show x=.none from r];rfl
   | bool b=>rw [show x=.bool b from r];rfl
   | int i=>obtain ⟨t,rfl⟩:=r;rfl
   | str s=>obtain ⟨_,t,rfl⟩:=r;rfl
   | tup l=>exact SqV.c r fun _ _ _ _ _=>rfl
   | lst l=>exact SqV.c r fun _ _ _ _ _=>rfl
   | opq=>exact r.elim
  refine (key r).trans ?_
  cases d with
  | opq i=>exact T.nn i
  | _=>rfl
 | loc=>exact refR.c r fun _ _=>rfl
 | rloc=>exact refR.c r fun _ _=>rfl
 | inst=>exact instR.c r fun _ _ _ _=>rfl
 | rinst=>exact instR.c r fun _ _ _ _=>rfl
 | mix=>exact SqV.c r fun _ _ _ _ _=>rfl
 | obj=>obtain ⟨a,rfl⟩:=r;rfl
 | pr p=>rw [show x=pkV p from r];cases p <;> rfl
 | fn i=>rw [show x=_ from r];rfl
 | cl i=>rw [show x=_ from r];rfl
omit [OpqE] in
theorem cmpI_r {P:Value→Value→Bool→Prop} {f:Int→Int→Bool} {t:Bool} (e:cmpI a b f=some t) (ra:VR g w.k a xa) (rb:VR g w.k b xb) (k:∀ i j u v,P (.int i u) (.int j v) (f i j)):P xa xb t:=ob_e e fun i e1 e=>ob_e e fun j e2 e=>by
 obtain ⟨u,rfl⟩:=intV_r e1 ra
 obtain ⟨v,rfl⟩:=intV_r e2 rb
 rw [← Option.some.inj e];exact k i j u v
omit [OpqE] in
theorem not_r {P:Prop} {o:Option Bool} {t:Bool} (e:notO o=some t) (k:∀ b,o=some b→(!b)=t→P):P:=ob_e e fun b e h=>k b e (Option.some.inj h)
theorem cmp_ok (G:GdOK g) (T:TokOK g) {op:CmpOp} {t:Bool} (e:cmpOpV g.C.base op H a b=some t) (I:In g c fm w H) (ra:VR g w.k a xa) (rb:VR g w.k b xb) (P:∀ tk,Q (.bool t) {w.s with toks:=tk}):Wp g c (compareOp op xa xb) Q w:=by
 have P0:Q (.bool t) w.s:=P w.s.toks
 cases op with
 | Eq =>
  refine eqV_r (P:=fun t=>Q (.bool t) w.s→Wp g c (compareOp .Eq xa xb) Q w) T e I ra rb (fun as bs p q h1 h2 h3 h4 P0=>compareEq_shaped h1 h2 h3 h4 (un64 I) P0) (fun a b vs ha hb h1 h2 P0=>?_) P0
  rw [ha,hb]
  cases vs with
  | nil=>exact RcAt.lists (e:=fun _=>true) h1 h2 rfl (un0 I) (fun j h1 _=>absurd h1 (Nat.not_lt_zero _)) _ _ _ _ P0
  | cons v r=>exact RcAt.lists_lengths h1 h2 (by simp) (un0 I) _ _ _ _ P0
 | NotEq =>
  refine not_r e fun t' e ht=>eqV_r (P:=fun t'=>(!t')=t→Wp g c (compareOp .NotEq xa xb) Q w) T e I ra rb (fun as bs p q h1 h2 h3 h4 ht=>compareNe_shaped h1 h2 h3 h4 (un64 I) (ht ▸ P0)) (fun a b vs ha hb h1 h2 ht=>?_) ht
  rw [ha,hb]
  cases vs with
  | nil=>exact RcNeAt.lists (e:=fun _=>true) h1 h2 rfl (un0 I) (fun j h1 _=>absurd h1 (Nat.not_lt_zero _)) _ _ _ _ (show Q (.bool false) w.s by rw [show false=t from ht];exact P0)
  | cons v r=>exact RcNeAt.lists_lengths h1 h2 (by simp) (un0 I) _ _ _ _ (show Q (.bool true) w.s by rw [show true=t from ht];exact P0)
 | Lt=>exact cmpI_r (P:=fun x y t=>Q (.bool t) w.s→Wp g c (compareOp .Lt x y) Q w) e ra rb (fun _ _ _ _ h=>lt_int h) P0
 | LtE=>exact cmpI_r (P:=fun x y t=>Q (.bool t) w.s→Wp g c (compareOp .LtE x y) Q w) e ra rb (fun _ _ _ _ h=>le_int h) P0
 | Gt=>exact cmpI_r (P:=fun x y t=>Q (.bool t) w.s→Wp g c (compareOp .Gt x y) Q w) e ra rb (fun _ _ _ _ h=>gt_int h) P0
 | GtE=>exact cmpI_r (P:=fun x y t=>Q (.bool t) w.s→Wp g c (compareOp .GtE x y) Q w) e ra rb (fun _ _ _ _ h=>ge_int h) P0
 | Is=>exact gb_e e fun q e=>by rw [noneV_r q rb];exact is_none (by rw [val_none T ra,Option.some.inj e];exact P0)
 | IsNot=>exact gb_e e fun q e=>by rw [noneV_r q rb];exact isNot_none (by rw [val_none T ra,Option.some.inj e];exact P0)
 | In =>
  exact inV_r (P:=fun t=>(∀ tk,Q (.bool t) {w.s with toks:=tk})→Wp g c (compareOp .In xa xb) Q w) T e I ra rb (fun d ps s e1 e0 hd hk P=>by rw [e1];exact wpAny_in_of hk (G.sys e0) hd.mapOf (P _)) (fun _ _ _ _ h1 h2 h3 h4 h5 P=>in_tuple_reads h1 h2 h3 h4 h5 (P w.s.toks)) (fun _ _ _ _ h1 h2 h3 h4 h5 P=>in_list_reads h1 h2 h3 h4 h5 (P w.s.toks)) P
 | NotIn =>
  refine not_r e fun t' e ht=>inV_r (P:=fun t'=>(!t')=t→Wp g c (compareOp .NotIn xa xb) Q w) T e I ra rb (fun d ps s e1 e0 hd hk ht=>?_) (fun _ _ _ _ h1 h2 h3 h4 h5 ht=>notIn_tuple_reads h1 h2 h3 h4 h5 (ht ▸ P0)) (fun _ _ _ _ h1 h2 h3 h4 h5 ht=>notIn_list_reads h1 h2 h3 h4 h5 (ht ▸ P0)) ht
  rw [e1];exact wpAny_notIn_of hk (G.sys e0) hd.mapOf (ht ▸ P _)
end
theorem vI_e {i:Int} (e:vI i=some r) (P:PoR g c fm H r Q w):Po g c fm H (.dat (.int i)) Q w:=by rw [← Option.some.inj e] at P;exact P
theorem sz_e {α:Type} {p q:List α} {r':Res} (e:sz2 p q r'=some r) (P:PoR g c fm H r Q w):PoR g c fm H r' Q w∧p.length+q.length≤10000:=gb_e e fun q e=>⟨Option.some.inj e ▸ P,Nat.le_of_ble_eq_true q⟩
@[elab_as_elim] theorem int2_e {X:Value→Value→Prop} {f:Int→Int→Option Res} (e:int2 a b f=some r) (ra:VR g w.k a xa) (rb:VR g w.k b xb) (k:∀ i j u v,f i j=some r→X (.int i u) (.int j v)):X xa xb:=ob_e e fun i e1 e=>ob_e e fun j e2 e=>by
 obtain ⟨u,rfl⟩:=intV_r e1 ra
 obtain ⟨v,rfl⟩:=intV_r e2 rb
 exact k i j u v e
theorem bits_small {i:Int} (q:smallI i=true):Builtin.Int.intBits i≤64:=by
 have:i.natAbs < 4611686018427387904:=Nat.le_of_ble_eq_true q
 exact intBits_le_64 (by omega) (by omega)
theorem toS_app (a b:List Nat):toS a++toS b=toS (a++b):=congrArg Str.mk (List.append_toArray a b)
theorem strOK_app {a b:List Nat} (h1:strOK a=true) (h2:strOK b=true):strOK (a++b)=true:=by
 unfold strOK at *;simp at *;exact ⟨h1,h2⟩
theorem szL {n:Nat} (h:n≤10000):n≤sizeLine:=Nat.le_trans h (by decide)
theorem datL_app {s t:List DV}:datL (s++t)=datL s++datL t:=List.map_append
theorem add_ok (e:addV H a b=some r) (I:In g c fm w H) (ra:VR g w.k a xa) (rb:VR g w.k b xb) (K:PoR g c fm H r Q w):Wp g c (binaryOp .Add xa xb) Q w:=by
 refine alt_e e (fun e=>int2_e e ra rb fun i j u v e=>add_int ((vI_e e K).tik I ⟨_,rfl⟩)) fun e=>alt_e e (fun e=>ob_e e fun s e1 e=>ob_e e fun t e2 e=>?_) fun e=>alt_e e (fun e=>ob_e e fun s e1 e=>ob_e e fun t e2 e=>?_) fun e=>ob_e e fun l e1 e=>ob_e e fun m e2 e=>?_
 ·obtain ⟨o1,u,rfl⟩:=strV_r e1 ra
  obtain ⟨o2,v,rfl⟩:=strV_r e2 rb
  obtain ⟨K,z⟩:=sz_e e K
  exact PyProof.Rows.add_str (fun t' tk=>Po.tik K I ⟨strOK_app o1 o2,t',by rw [toS_app]⟩) (szL z)
 ·obtain ⟨a,vs,rfl,⟨n,ha⟩,hv⟩:=tupV_r e1 ra
  obtain ⟨b,us,rfl,⟨m,hb⟩,hu⟩:=tupV_r e2 rb
  obtain ⟨K,z⟩:=sz_e e K
  have K:Po g c fm H (.dat (.tup (s++t))) Q w:=K
  have ia:=I.R.fr ha
  have ib:=I.R.fr hb
  have zz:vs.toArray.size+us.toArray.size≤sizeLine:=by rw [List.size_toArray,List.size_toArray,hv.len,hu.len];exact szL (by rw [datL,datL,List.length_map,List.length_map];exact z)
  cases s with
  | nil =>
   have e:vs=[]:=hv
   subst e
   exact concat_meets ⟨_,ia,rfl⟩ ⟨_,ib,rfl⟩ noFill_tuple_add seq_tuple_add F.slot_tuple_add F.entry_tuple_add (F.args_tuple_add_2 _ _) (AutoSeq1.tuple___add___tuple_tuple_0 a _ n b _ m rfl) ⟨ia,ib,K.tik (tk:=w.s.toks) I (tup_mk ⟨m,hb⟩ hu)⟩
  | cons d s =>
   have hs:∃ v r,vs=v::r:=hv.c fun v r _ _=>⟨v,r,rfl⟩
   cases t with
   | nil =>
    have e:us=[]:=hu
    subst e
    rw [List.append_nil] at K
    exact concat_meets ⟨_,ia,rfl⟩ ⟨_,ib,rfl⟩ noFill_tuple_add seq_tuple_add F.slot_tuple_add F.entry_tuple_add (F.args_tuple_add_2 _ _) (AutoSeq1.tuple___add___tuple_tuple_1 a _ n b _ m (by obtain ⟨v,r,rfl⟩:=hs;simp) rfl) ⟨ia,ib,K.tik (tk:=w.s.toks) I (tup_mk ⟨n,ha⟩ hv)⟩
   | cons d' t =>
    have ht:∃ v r,us=v::r:=hu.c fun v r _ _=>⟨v,r,rfl⟩
    refine P.add_tuple ia ib (by obtain ⟨v,r,rfl⟩:=hs;simp) (by obtain ⟨v,r,rfl⟩:=ht;simp) ?_ zz
    rw [List.append_toArray]
    exact K.tupX (tk:=w.s.toks) (l:=datL (d::s++d'::t)) I (datL_app ▸ hv.app hu) tup_mk
 ·obtain ⟨a,vs,rfl,⟨n,ha⟩,hv⟩:=lstOf_r e1 I ra
  obtain ⟨b,us,rfl,⟨m,hb⟩,hu⟩:=lstOf_r e2 I rb
  obtain ⟨K,z⟩:=sz_e e K
  refine P.add_list ha hb ?_ (by rw [List.size_toArray,List.size_toArray,hv.len,hu.len];exact szL z)
  rw [List.append_toArray]
  exact PoN.lst (tk:=w.s.toks) K I (hv.app hu)
theorem bin_ok {op:Operator} (e:binV op H a b=some r) (I:In g c fm w H) (ra:VR g w.k a xa) (rb:VR g w.k b xb) (P:PoR g c fm H r Q w):Wp g c (binaryOp op xa xb) Q w:=by
 cases op with
 | Add=>exact add_ok e I ra rb P
 | Sub=>exact int2_e e ra rb fun i j u v e=>sub_int ((vI_e e P).tik I ⟨_,rfl⟩)
 | Mult=>exact int2_e e ra rb fun i j u v e=>gb_e e fun q e=>mul_int ((vI_e e P).tik I ⟨_,rfl⟩) (((Bool.or_eq_true ..).mp q).elim (fun q=>IntMulOk.of_left (bits_small q)) fun q=>IntMulOk.of_right (bits_small q))
 | Mod =>
  exact int2_e e ra rb fun i j u v e=>gb_e e fun q e=>by
   have q:=of_decide_eq_true q
   have P:=vI_e e P
   rw [← Int.fmod_eq_emod_of_nonneg _ (Int.le_of_lt q)] at P
   exact mod_int (Int.ne_of_gt q) (P.tik I ⟨_,rfl⟩)
 | FloorDiv =>
  exact int2_e e ra rb fun i j u v e=>gb_e e fun q e=>and_e q fun q q2=>by
   have q:=of_decide_eq_true q
   have q2:=of_decide_eq_true q2
   have P:=vI_e e P
   rw [← Int.fdiv_eq_ediv_of_nonneg _ (Int.le_of_lt q)] at P
   exact floordiv_int (Int.ne_of_gt q) (P.tik I ⟨_,rfl⟩) (.inl (PyProof.noPylong_small (by omega)))
 | Pow =>
  exact int2_e e ra rb fun i j u v e=>gb_e e fun q e=>and_e q fun q q2=>by
   rw [of_decide_eq_true q,of_decide_eq_true q2]
   exact pow_int (by decide) (by decide +kernel) ((vI_e e P).tik I ⟨_,rfl⟩)
 | _=>exact nos e
end
end
section
section
variable {g:Gd} {c:Cx} {fm:Fm} {w w1:Wo} {H H':Hp} {a b v:AV} {l:List AV} {x xa xb:Value} {vs:List Value} {tk:Nat} {Q:Value→Shared→Prop} {r:Res} {n:Nat}
theorem nth_r {X:Int→Prop} {i:Int} {k:Kn} (e:nthI l i=some v) (r:VRL g k l vs) (k1:∀ (n:Nat) x,vs[n]?=some x→VR g k v x→n < 2 ^ 62→X n) (k2:∀ (n:Nat) x,n+1≤vs.length→vs[vs.length - (n+1)]?=some x→VR g k v x→n < 2 ^ 62→X (Int.negSucc n)):X i:=by
 have z:∀ {n},le n 1000000=true→n < 2 ^ 62:=fun q=>Nat.lt_of_le_of_lt (Nat.le_of_ble_eq_true q) (by decide)
 cases i with
 | ofNat n=>exact gb_e e fun q e=>(r.get e).elim fun x h=>k1 n x h.1 h.2 (z q)
 | negSucc n=>exact gb_e e fun q e=>and_e q fun q1 q2=>(r.get e).elim fun x h=>k2 n x (by rw [r.len];exact Nat.le_of_ble_eq_true q1) (by rw [r.len];exact h.1) h.2 (z q2)
theorem seqIdx_neg {n m:Nat} (h:n+1≤m):seqIndex? (Int.negSucc n) m=some (m - (n+1)):=by
 unfold seqIndex?
 have h2:Int.negSucc n+(m:Int)=((m - (n+1):Nat):Int):=by omega
 rw [if_pos (Int.negSucc_lt_zero n),h2]
 have h3:m - (n+1) < m:=by omega
 simp [h3]
theorem seqIdx_pos {n m:Nat} (h:n < m):seqIndex? (n:Int) m=some n:=by
 unfold seqIndex?
 have h1:¬ ((n:Int) < 0):=by omega
 simp [h1,h]
theorem lt_of_get {α:Type} {l:List α} {n:Nat} {a:α} (e:l[n]?=some a):n < l.length:=(List.getElem?_eq_some_iff.mp e).1
theorem lo63 (n:Nat):-(2:Int) ^ 63≤n:=Int.le_trans (by decide) (Int.natCast_nonneg n)
theorem hi63 {n:Nat} (h:n < 2 ^ 62):(n:Int) < 2 ^ 63:=by omega
theorem lo63' {n:Nat} (h:n < 2 ^ 62):-(2:Int) ^ 63≤Int.negSucc n:=by omega
theorem getItem_t {i:Int} {t:Tok} {d:Addr} (ht:w.h d=some (sqO "tuple" vs n)) (e:nthI l i=some v) (r:VRL g w.k l vs) (h:∀ x,VR g w.k v x→Q x w.s):Wp g c (getItem (.ref d) (.int i t)) Q w :=
 nth_r (X:=fun i=>Wp g c (getItem (.ref d) (.int i t)) Q w) e r (fun n x e r z=>P.getItem_tuple ht (lo63 n) (hi63 z) (seqIdx_pos (lt_of_get e)) (by rw [List.getElem?_toArray];exact e) (h x r))
  fun n x le e r z=>P.getItem_tuple ht (lo63' z) (Int.lt_of_lt_of_le (Int.negSucc_lt_zero n) (by decide)) (seqIdx_neg le) (by rw [List.getElem?_toArray];exact e) (h x r)
theorem getItem_l {i:Int} {t:Tok} {d:Addr} (ht:w.h d=some (sqO "list" vs n)) (e:nthI l i=some v) (r:VRL g w.k l vs) (h:∀ x,VR g w.k v x→Q x w.s):Wp g c (getItem (.ref d) (.int i t)) Q w :=
 nth_r (X:=fun i=>Wp g c (getItem (.ref d) (.int i t)) Q w) e r (fun n x e r z=>wpAny_getItem_list (sq_list ht) (Int.natCast_nonneg n) (hi63 z) (by rw [List.getElem?_toArray];exact e) (h x r))
  fun n x le e r z=>wpAny_getItem_list_neg (sq_list ht) (Int.negSucc_lt_zero n) (by rw [List.size_toArray];omega) (lo63' z) (by
   rw [List.size_toArray,List.getElem?_toArray,show Int.negSucc n+(vs.length:Int)=((vs.length - (n+1):Nat):Int) by omega];exact e) (h x r)
theorem subs_untr (N:Nat→Str) (x:MX):∀ o i,subscripted (untr N x) false o i=operate [o,i] (getItem o i):=by
 induction x using MX.rec (motive_2:=fun _=>True) (motive_3:=fun _=>True) <;> first | trivial | exact fun _ _=>rfl | assumption
theorem sub_ok {value:Expr} {y:MX} (e:subV g.C.base H a b=some v) (I:In g c fm w H) (ra:VR g w.k a xa) (rb:VR g w.k b xb) (P:Po g c fm H v Q w):Wp g c (subscriptTail value (untr g.N y) xa xb) Q w:=by
 refine alt_e e (fun e=>ob_e e fun i e1 e=>ob_e e fun l e2 e=>?_) fun e=>ob_e e fun s e1 e=>ob_e e fun es e2 e=>?_
 ·obtain ⟨t,rfl⟩:=intV_r e1 rb
  exact seqOf_r (P:=fun xa=>Wp g c (subscriptTail value (untr g.N y) xa (.int i t)) Q w) e2 I ra
   (fun a vs n h r=>tail_any ⟨_,h,rfl⟩ F.slot_list_getitem.lookup (getItem_l h e r fun x r=>P.tik (tk:=w.s.toks) I r) (subs_untr _ _ _ _))
   (fun a vs n h r=>tail_any ⟨_,h,rfl⟩ F.slot_tuple_getitem.lookup (getItem_t h e r fun x r=>P.tik (tk:=w.s.toks) I r) (subs_untr _ _ _ _))
 ·refine dictAt_r e2 I ra fun d ob ps ed e0 eh hd r=>?_
  rw [ed]
  obtain ⟨x,hx,rx⟩:=(dc_find r s).get e
  exact tail_any (hd _ _ eh).typeIs F.slot_dict_getitem.lookup (wpAny_getItem_of (skey (strV_r e1 rb)) (hd _ _ eh).mapOf hx (P.tik I rx)) (subs_untr _ _ _ _)
theorem pick_tail (vs:List Value):slicePick vs.toArray none (some 0) (some (-1))=vs.tail.reverse.toArray:=by
 have rev1:∀ n,(List.range n).map (fun k=>n - k)=((List.range n).map (1+·)).reverse:=fun n=>by
  apply List.ext_getElem
  ·simp
  ·intro i h1 h2
   simp at h1
   rw [List.getElem_map,List.getElem_reverse]
   simp;omega
 cases vs with
 | nil=>rfl
 | cons v vs =>
  have hb:sliceBounds none (some 0) (some (-1)) (v::vs).toArray.size=((vs.length:Int),0,-1):=by
   simp [sliceBounds];omega
  unfold slicePick
  rw [hb]
  show ((sliceRange (vs.length:Int) 0 (-1)).filterMap ((v::vs).toArray[·]?)).toArray=_
  have hr:sliceRange (vs.length:Int) 0 (-1)=((List.range vs.length).map (1+·)).reverse:=by
   rw [← rev1]
   unfold sliceRange
   by_cases z:(vs.length:Int) > 0
   ·rw [if_neg (by decide),if_pos z]
    show List.map _ (List.range (((vs.length:Int) - 0 - -1 - 1) / (- -1)).toNat)=_
    rw [show (((vs.length:Int) - 0 - -1 - 1) / (- -1)).toNat=vs.length by rw [show (- -1:Int)=1 by decide,Int.ediv_one];omega]
    exact List.map_congr_left fun k hk=>by have:=List.mem_range.mp hk;omega
   ·rw [if_neg (by decide),if_neg z,show vs.length=0 by omega];rfl
  rw [hr,List.filterMap_reverse]
  have h:=pick_run (v::vs).toArray 1 vs.length
  rw [h]
  congr 1
  simp
noncomputable def VO (g:Gd) (k:Kn) (o:Option AV) (x:Value):Prop:=Option.rec (x=.none) (fun a=>VR g k a x) o
theorem isI_r {i:Int} {k:Kn} (e:isI i a=true) (r:VR g k a x):intR i x:=optB_e e fun j e q=>of_decide_eq_true q ▸ intV_r e r
theorem slc_ok {value:Expr} {l₀ u₀:Option Expr} {st:Expr} {sp:Pos} {lo up sp':Option AV} {vl vu vk:Value} {d:Addr} (e:slcV H a lo up sp'=some l) (I:In g c fm w H) (ra:VR g w.k a xa) (rl:VO g w.k lo vl) (ru:VO g w.k up vu) (rk:VO g w.k sp' vk) (hsl:w.s.heap.IsSliceOf d vl vu vk) (P:PoN g c fm H l Q w) :
  Wp g c (subscriptTail value (.Slice l₀ u₀ (some st) sp) xa (.ref d)) Q w:=gb_e e fun q e=>and_e q fun q1 q2=>ob_e e fun m e1 e=>gb_e e fun q ef=>by
 obtain ⟨y,vs,rfl,⟨n,ty⟩,ry⟩:=lstOf_r e1 I ra
 have hz:vs.toArray.size≤sizeLine:=by rw [List.size_toArray,ry.len];exact szL (Nat.le_of_ble_eq_true q)
 have hl:lo=none:=by cases lo with
  | none=>rfl
  | some=>exact nft q1
 subst hl
 rw [show vl=.none from rl] at hsl
 obtain ⟨kv,rfl,q2⟩:∃ kv,sp'=some kv∧isI (-1) kv=true:=optB_e q2 fun kv e q=>⟨kv,e,q⟩
 obtain ⟨t,rfl⟩:=isI_r q2 rk
 cases up with
 | none =>
  rw [show vu=.none from ru] at hsl
  refine tail_any ⟨_,ty,rfl⟩ F.slot_list_getitem.lookup (wpAny_getItem_list_slice (sq_list ty) hsl .none .none (.int _ t) (by decide) ?_ hz) rfl
  rw [krv_pick]
  exact PoN.lst (vs:=vs.reverse) (tk:=w.s.toks) P I (Option.some.inj ef ▸ ry.rev)
 | some u =>
  exact gb_e ef fun q ef=>by
   obtain ⟨t',rfl⟩:=isI_r (a:=u) q ru
   refine tail_any ⟨_,ty,rfl⟩ F.slot_list_getitem.lookup (wpAny_getItem_list_slice (sq_list ty) hsl .none (.int _ t') (.int _ t) (by decide) ?_ hz) rfl
   rw [pick_tail]
   exact PoN.lst (vs:=vs.tail.reverse) (tk:=w.s.toks) P I (Option.some.inj ef ▸ ry.tl.rev)
end
noncomputable abbrev EvF:=Fm→MX→Hp→Option (AV×Hp)
noncomputable def EvS (g:Gd) (ev:EvF):Prop:=∀ {c fm x H v H' w Q},ev fm x H=some (v,H')→In g c fm w H→Po g c fm H' v Q w→We g c x Q w
noncomputable def CdS (g:Gd) (cd:Fm→MX→Hp→Option (Bool×Hp)):Prop:=∀ {c fm x H b H' w Q},cd fm x H=some (b,H')→In g c fm w H→PoB g c fm H' b Q w→Wp g c (isTrue (untr g.N x) c.env (eval (untr g.N x) c.env)) Q w
noncomputable def CallS (g:Gd) (call:Nat→AV→List AV→Hp→Option (AV×Hp)):Prop:=∀ {c fm f vs H v H' w Q xf xs},call fm.dep f vs H=some (v,H')→In g c fm w H→VR g w.k f xf→VRL g w.k vs xs→Po g c fm H' v Q w→Wp g c (PySem.call xf xs) Q w
theorem star_untr (N:Nat→Str) (x:MX) (rest:List Expr) (env:Env):starEach (untr N x::rest) env=(false,eval (untr N x) env)::starEach rest env:=by
 induction x using MX.rec (motive_2:=fun _=>True) (motive_3:=fun _=>True) <;> first | trivial | rfl | assumption
theorem marks_untr (N:Nat→Str) (op:CmpOp) (x:MX):behindInMarks op (untr N x)=false:=by
 induction x using MX.rec (motive_2:=fun _=>True) (motive_3:=fun _=>True) <;> first | trivial | rfl | assumption
section
variable {g:Gd} {c:Cx} {fm:Fm} {w w1:Wo} {H H' H1:Hp} {a b v:AV} {l:List AV} {x y:MX} {vs:List Value} {tk p:Nat} {Q:Value→Shared→Prop} {r:Res} {ev:EvF} {α:Type} {R:α}
theorem EvS.ob (he:EvS g ev) {f:AV→Hp→Option α} (e:ob2 (ev fm x H) f=some R) (I:In g c fm w H) (k:∀ a H1,f a H1=some R→∀ w1 xa,Ex (Own g c) w w1→In g c fm w1 H1→VR g w1.k a xa→Q xa w1.s):We g c x Q w:=ob2_e e fun a H1 e1 e=>he e1 I fun w1 xa X I r=>k a H1 e w1 xa X I r
theorem evs_ok (he:EvS g ev) (pos:Pos) {xs:List MX}:∀ {H vs w} {Q:List Value→Shared→Prop},evs ev fm xs H=some (vs,H1)→In g c fm w H→PoL g c fm H1 vs Q w→Wp g c (spliced (backTo pos (starEach (untrL g.N xs) c.env))) Q w:=by
 induction xs with
 | nil=>exact fun e I P=>pr_e e fun e1 e2=>by subst e1;subst e2;exact wpAny_items_nil (P _ [] .rfl I rfl)
 | cons x xs ih =>
  exact fun {H vs w Q} e I P=>wpAny_items_cons (he.ob (f:=fun v H=>ob2 (evs ev fm xs H) fun vs H=>some (v::vs,H)) e I fun a H1 e w1 xa X I r=>ob2_e e fun us H2 e2 e=>pr_e e fun e3 e4=>by
   subst e3;subst e4
   exact ih e2 I fun w2 xs Y I rs=>P w2 (xa::xs) (X.trans Y) I ⟨_,_,rfl,r.up Y.u,rs⟩) (star_untr _ _ _ _)
theorem ev_var (G:GdOK g) {i:Nat} (e:ob (kindOfI fm.sc i) (fun k=>ob (lookN fm.vars i) fun v=>VK.rec (some (v,H)) (some (v,H)) none k)=some (v,H')) (I:In g c fm w H) (P:Po g c fm H' v Q w):We g c (.var i p) Q w:=ob_e e fun k ek e=>ob_e e fun u eu e=>by
 cases k with
 | gl=>exact nos e
 | lo =>
  exact pr_e e fun e1 e2=>by
   subst e1;subst e2
   obtain ⟨m,n,h⟩:=I.loc
   obtain ⟨x,hx,r⟩:=h eu ek
   exact wpAny_Name (wpAny_loadName_local I.st.kind (I.st.nlo ek) n hx (P.tik (tk:=w.s.toks) I r)) (G.dbg i)
 | ce =>
  exact pr_e e fun e1 e2=>by
   subst e1;subst e2
   obtain ⟨d,ob,x,hc,ho,hd,r⟩:=I.cel eu ek
   rcases (I.st.nce ek).1 with q | q
   ·exact wpAny_Name (wpAny_loadName_cell I.st.kind q hc ⟨ob,ho,hd⟩ (P.tik (tk:=w.s.toks) I r)) (G.dbg i)
   ·exact wpAny_Name (wpAny_loadName_free I.st.kind q hc ⟨ob,ho,hd⟩ (P.tik (tk:=w.s.toks) I r) (G.cdj i)) (G.dbg i)
theorem ev_glob (G:GdOK g) {i:Nat} (e:gb (isGl fm.sc i) (ob (g.C.gl i) fun v=>some (v,H))=some (v,H')) (I:In g c fm w H) (P:Po g c fm H' v Q w):We g c (.glob i p) Q w:=gb_e e fun hk e=>ob_e e fun u eg e'=>pr_e e' fun e1 e2=>by
 subst e1;subst e2
 obtain ⟨x,h1,h2⟩:=G.glo eg
 exact h1 c.A c.E w.s Q c.env (pz p) I.st.kind I.st.glob I.st.bui (I.st.ngl hk) I.R.gr (P.tik (tk:=w.s.toks) I (h2 I.R.G0))
theorem ev_const (G:GdOK g) {k:MC} (I:In g c fm w H) (P:Po g c fm H (.dat (constV g.C k)) Q w):We g c (.const k p) Q w:=by
 cases k with
 | none=>exact wpAny_Constant_none (P.tik (tk:=w.s.toks) I rfl)
 | bool b=>exact wpAny_Constant_bool (P.tik (tk:=w.s.toks) I rfl)
 | int i=>exact wpAny_Constant_int (P.tik I ⟨_,rfl⟩)
 | str x=>exact wpAny_Constant_str (P.tik I ⟨G.cdo x,_,by rw [G.cd]⟩)
theorem bop_ok {o:Ops} (he:EvS g o.ev) (t:Bool) (pos:Pos) {xs:List MX}:∀ {H v w} {Q:Value→Shared→Prop},bopV o fm t xs H=some (v,H1)→In g c fm w H→Po g c fm H1 v Q w→Wp g c (boolOp pos (if t then .And else .Or) (evalEach (untrL g.N xs) c.env)) Q w:=by
 induction xs with
 | nil=>exact fun e=>nos e
 | cons x xs ih=>cases xs with
  | nil=>exact fun e I P=>he e I P
  | cons y xs =>
   exact fun {H v w Q} e I P=>by
    show Wp g c (do
     let v ← eval (untr g.N x) c.env
     standAt pos
     let b ← holding [v] (truthy v)
     match (if t then BoolOp.And else BoolOp.Or),b with
     | .And,false | .Or,true=>pure v
     | _,_=>boolOp pos (if t then .And else .Or) (evalEach (untrL g.N (y::xs)) c.env)) Q w
    refine wpAny_bind (he.ob (f:=fun v H=>ob (boolV v) fun b=>cond (b==t) (bopV o fm t (y::xs) H) (some (.dat (.bool b),H))) e I fun a H2 e w1 xa X I r=>ob_e e fun b e2 e=>?_)
    rw [boolV_r e2 r]
    refine wpAny_bind (wpAny_standAt (wpAny_bind (wpAny_holding (wpAny_truthy_bool ?_))))
    cases b <;> cases t
    ·exact ih e I (P.nx X)
    ·exact pr_e e fun e1 e2=>by subst e1;subst e2;exact wpAny_pure (P w1 _ X I rfl)
    ·exact pr_e e fun e1 e2=>by subst e1;subst e2;exact wpAny_pure (P w1 _ X I rfl)
    ·exact ih e I (P.nx X)
theorem PoB.nx {b:Bool} {Q:Bool→Shared→Prop} (P:PoB g c fm H b Q w) (X:Ex (Own g c) w w1):PoB g c fm H b Q w1:=fun w' Y=>P w' (X.trans Y)
theorem CdS.ob {cd:Fm→MX→Hp→Option (Bool×Hp)} (hc:CdS g cd) {f:Bool→Hp→Option α} (e:ob2 (cd fm x H) f=some R) (I:In g c fm w H) {Q:Bool→Shared→Prop} (k:∀ b H1,f b H1=some R→∀ w1,Ex (Own g c) w w1→In g c fm w1 H1→Q b w1.s):Wp g c (isTrue (untr g.N x) c.env (eval (untr g.N x) c.env)) Q w:=ob2_e e fun a H1 e1 e=>hc e1 I fun w1 X I=>k a H1 e w1 X I
theorem bopC_ok {o:Ops} (hc:CdS g o.cd) (t:Bool) {xs:List MX}:∀ {H b w} {Q:Bool→Shared→Prop},bopC o fm t xs H=some (b,H1)→In g c fm w H→PoB g c fm H1 b Q w→Wp g c (allTrue (if t then .And else .Or) (untrL g.N xs) c.env) Q w:=by
 induction xs with
 | nil =>
  exact fun e I P=>pr_e e fun e1 e2=>by
   subst e1;subst e2
   cases t
   ·exact wpAny_allTrue_Or_nil (P _ .rfl I)
   ·exact wpAny_allTrue_And_nil (P _ .rfl I)
 | cons x xs ih =>
  exact fun {H b w Q} e I P=>by
   cases t
   ·refine wpAny_allTrue_Or_cons (hc.ob (f:=fun b H=>cond (b==false) (bopC o fm false xs H) (some (b,H))) e I fun b H1 e w1 X I=>?_)
    cases b
    ·exact ih e I (P.nx X)
    ·exact pr_e e fun e1 e2=>by subst e1;subst e2;exact P w1 X I
   ·refine wpAny_allTrue_And_cons (hc.ob (f:=fun b H=>cond (b==true) (bopC o fm true xs H) (some (b,H))) e I fun b H1 e w1 X I=>?_)
    cases b
    ·exact pr_e e fun e1 e2=>by subst e1;subst e2;exact P w1 X I
    ·exact ih e I (P.nx X)
end
end
section
section
variable {g:Gd} {c:Cx} {fm:Fm} {w w1:Wo} {H H' H1 H2:Hp} {a b v:AV} {l:List AV} {x xa xb:Value} {y:MX} {vs:List Value} {tk p:Nat} {Q:Value→Shared→Prop} {r:Res} {o:Ops} {n:Nat}
theorem ite_ok (he:EvS g o.ev) (hc:CdS g o.cd) {t u e:MX} (q:ob2 (o.cd fm t H) (fun t H=>cond t (o.ev fm u H) (o.ev fm e H))=some (v,H')) (I:In g c fm w H) (P:Po g c fm H' v Q w):We g c (.ite t u e p) Q w :=
 wpAny_IfExp (hc.ob q I fun b H1 q w1 X I=>by cases b <;> exact he q I (P.nx X))
theorem iteC_ok (hc:CdS g o.cd) {t u e:MX} {b:Bool} {Q:Bool→Shared→Prop} (q:ob2 (o.cd fm t H) (fun t H=>cond t (o.cd fm u H) (o.cd fm e H))=some (b,H')) (I:In g c fm w H) (P:PoB g c fm H' b Q w):Wp g c (isTrue (untr g.N (.ite t u e p)) c.env (eval (untr g.N (.ite t u e p)) c.env)) Q w:=by
 show Wp g c (isTrue (.IfExp (untr g.N t) (untr g.N u) (untr g.N e) (pz p)) c.env _) _ _
 rw [arm_isTrue_IfExp]
 exact wpAny_bind (hc.ob q I fun b H1 q w1 X I=>by cases b <;> exact hc q I (P.nx X))
theorem cmpE [OpqE] (G:GdOK g) (T:TokOK g) (he:EvS g o.ev) {op:CmpOp} {s t:MX} {α:Type} {f:Bool→Hp→Option α} {R:α} (q:ob2 (o.ev fm s H) (fun a H=>ob2 (o.ev fm t H) fun b H=>ob (cmpOpV g.C.base op H a b) fun r=>f r H)=some R) (I:In g c fm w H)
  (k:∀ r H',f r H'=some R→∀ w',Ex (Own g c) w w'→In g c fm w' H'→Q (.bool r) w'.s) :
  wpAny (model g.st.prog g.st.w) c.A (eval (untr g.N s) c.env) (fun a s₁=>wpAny (model g.st.prog g.st.w) c.A (eval (untr g.N t) c.env) (fun b s₂=>wpAny (model g.st.prog g.st.w) c.A (compareOp op a b) Q c.E s₂) c.E s₁) c.E w.s :=
 he.ob q I fun a H1 q w1 xa X I ra=>he.ob (f:=fun b H=>ob (cmpOpV g.C.base op H a b) fun r=>f r H) q I fun b H2 q w2 xb Y I rb=>ob_e q fun r e q=>cmp_ok G T e I (ra.up Y.u) rb fun tk=>k r H2 q ⟨w2.k,_⟩ ((X.trans Y).trans (Ex.gr fun _ _ e=>e).wk) (I.gr fun _ _ e=>e)
theorem sub_okE (he:EvS g o.ev) {s t:MX} (q:ob2 (o.ev fm s H) (fun a H=>ob2 (o.ev fm t H) fun k H=>ob (subV g.C.base H a k) fun v=>some (v,H))=some (v,H')) (I:In g c fm w H) (P:Po g c fm H' v Q w):We g c (.sub s t p) Q w :=
 Subscript_ (he.ob q I fun a H1 q w1 xa X I ra=>he.ob (f:=fun k H=>ob (subV g.C.base H a k) fun v=>some (v,H)) q I fun b H2 q w2 xb Y I rb=>ob_e q fun u e q=>pr_e q fun e1 e2=>by
  subst e1;subst e2;exact sub_ok e I (ra.up Y.u) rb (P.nx (X.trans Y)))
theorem tup_ok (he:EvS g o.ev) {xs:List MX} {k:Nat} (q:ob2 (evs o.ev fm xs H) (fun vs H=>gb (le vs.length 10000) (some (mkTup vs,H)))=some (v,H')) (I:In g c fm w H) (P:Po g c fm H' v Q w):We g c (.tup xs k p) Q w :=
 ob2_e q fun us H1 e q=>gb_e q fun hl q=>pr_e q fun e1 e2=>by
  subst e1;subst e2
  exact Tuple_ (evs_ok he (pz p) e I fun w1 xs X I r=>wpAny_newTuple (Po.tup (P.nx X) I r) (by rw [r.len];exact szL (Nat.le_of_ble_eq_true hl)))
theorem isStr_N (G:GdOK g) {i j:Nat} {t:Tok}:(Value.str (g.N j) t).isStr (g.N i)=Nat.beq j i:=by
 show (g.N j==g.N i)=Nat.beq j i
 exact Bool.eq_iff_iff.mpr (beq_iff_eq.trans ⟨fun h=>Nat.beq_eq ▸ (G.inj h),fun h=>congrArg g.N (Nat.eq_of_beq_eq_true h)⟩)
theorem ns_refKey {k:Kn} {fs:List (Nat×AV)} {es:List DictEntry} (r:LR (nsE g k) fs es):es.any (·.refKey)=false:=by
 induction fs generalizing es with
 | nil=>exact r.n rfl
 | cons p fs ih=>refine r.c fun e us h r=>?_;obtain ⟨⟨t,h⟩,_⟩:=h;rw [List.any_cons,ih r];unfold DictEntry.refKey;rw [h];rfl
theorem ns_find (G:GdOK g) {k:Kn} {fs:List (Nat×AV)} {es:List DictEntry} (r:LR (nsE g k) fs es) (i:Nat):∃ q,getL (g.N i) es=some q∧optR (VR g k) (lookN fs i) q:=by
 have nk:=ns_refKey r
 unfold getL
 have key:∀ {fs:List (Nat×AV)} {es:List DictEntry},LR (nsE g k) fs es→optR (fun a (e:DictEntry)=>VR g k a e.val) (lookN fs i) (es.find? (·.key.isStr (g.N i))):=fun {fs}=>by
  induction fs with
  | nil=>exact fun r=>r.n rfl
  | cons p fs ih =>
   refine fun r=>r.c fun e us h r=>?_
   obtain ⟨⟨t,h⟩,hr⟩:=h
   rw [List.find?_cons,h,isStr_N G]
   show optR _ (cond (Nat.beq p.1 i) (some p.2) (lookN fs i)) _
   cases Nat.beq p.1 i with
   | true=>exact ⟨e,rfl,hr⟩
   | false=>exact ih r
 have z:=key r
 rw [nk]
 cases q:es.find? (·.key.isStr (g.N i)) with
 | none =>
  refine ⟨none,rfl,?_⟩
  rw [q] at z
  cases e:lookN fs i with
  | none=>rfl
  | some v=>rw [e] at z;exact z.elim fun _ h=>nos h.1
 | some e =>
  refine ⟨some e.val,rfl,?_⟩
  rw [q] at z
  cases ev:lookN fs i with
  | none=>rw [ev] at z;exact nos (show some e=none from z).symm
  | some v=>rw [ev] at z;exact z.elim fun b h=>⟨_,rfl,Option.some.inj h.1 ▸ h.2⟩
theorem handed {k:Kn} (r:VR g k v x):handedIn x=true:=by
 have key:∀ {d},DR k.f d x→handedIn x=true:=fun {d} r=>by
  cases d with
  | none=>rw [show x=.none from r];rfl
  | bool b=>rw [show x=.bool b from r];rfl
  | int i=>obtain ⟨t,rfl⟩:=r;rfl
  | str s=>obtain ⟨_,t,rfl⟩:=r;rfl
  | tup l=>exact SqV.c r fun _ _ _ _ _=>rfl
  | lst l=>exact SqV.c r fun _ _ _ _ _=>rfl
  | opq=>exact r.elim
 cases v with
 | dat d=>exact key r
 | loc=>exact refR.c r fun _ _=>rfl
 | rloc=>exact refR.c r fun _ _=>rfl
 | inst=>exact instR.c r fun _ _ _ _=>rfl
 | rinst=>exact instR.c r fun _ _ _ _=>rfl
 | mix=>exact SqV.c r fun _ _ _ _ _=>rfl
 | obj=>obtain ⟨a,rfl⟩:=r;rfl
 | pr p=>rw [show x=pkV p from r];cases p <;> decide
 | fn i=>rw [show x=_ from r];rfl
 | cl i=>rw [show x=_ from r];rfl
theorem nO_eq {o:Option AO} {l:List (Nat×AV)} (e:nO o=some l):o=some (.ns l):=ob_e e fun q e h=>by
 rw [e];cases q with
 | ns d=>exact congrArg (fun x=>some (AO.ns x)) (Option.some.inj h)
 | _=>exact nos h
theorem objV_r {P:Prop} {k:Nat} {fs:List (Nat×AV)} (e:objV g.C H a=some (k,fs)) (I:In g c fm w H) (r:VR g w.k a x) (j:∀ d dx es m,x=.ref d→InstAt w.s.heap d (instObj (g.st.clA k) dx) (g.st.clA k) (some (PySem.W.dictOf es m))→LR (nsE g w.k) fs es→P):P:=by
 refine alt_e e (fun e=>ob2_e e fun k n ei q=>ob_e q fun fs qn e'=>pr_e e' fun e1 e2=>?_) fun e=>ob2_e e fun k n ei q=>ob_e q fun fs qn e'=>pr_e e' fun e1 e2=>?_
 ·subst e1;subst e2
  rw [instV_eq ei] at r
  obtain ⟨d,dx,rfl,ed,eo⟩:=r
  exact I.R.get (nO_eq qn) ed fun ob eb h=>by obtain ⟨es,m,rfl,h⟩:=h;exact j d dx es m rfl ⟨I.R.fr eo,rfl,rfl,eb⟩ h
 ·subst e1;subst e2
  rw [rinstV_eq ei] at r
  obtain ⟨d,dx,rfl,ed,eo⟩:=r
  exact I.R.getB (nO_eq qn) ed fun ob _ eb h=>by obtain ⟨es,m,rfl,h⟩:=h;exact j d dx es m rfl ⟨I.R.fr eo,rfl,rfl,eb⟩ h
theorem attrBase (N:Nat→Str) {s:MX} (hn:noCall0 s=true) (attr:Str) (env:Env) (whole:Sem Value):attributeBase (untr N s) attr env whole=whole:=by
 cases s <;> first | rfl | exact nft hn
theorem kIn (G:GdOK g) (I:In g c fm w H):g.st.K.In w.s.heap:=G.kin.keeps I.R.gr
theorem attr_ok (G:GdOK g) (he:EvS g o.ev) {s:MX} {nm:Nat} (q:gb (noCall0 s) (ob2 (o.ev fm s H) fun a H=>ob2 (objV g.C H a) fun c fs=>gb (hasAttr g.C c nm) (ob (lookN fs nm) fun v=>some (v,H)))=some (v,H')) (I:In g c fm w H) (P:Po g c fm H' v Q w):We g c (.attr s nm p) Q w :=
 gb_e q fun hn q=>Attribute_any_ (he.ob q I fun a H1 q w1 xa X I ra=>ob2_e q fun k fs e q=>gb_e q fun ha q=>ob_e q fun u eu q=>pr_e q fun e1 e2=>by
  subst e1;subst e2
  refine objV_r e I ra fun d dx es m e0 ia r=>?_
  obtain ⟨h1,h2,⟨a,h3,h4⟩,_⟩:=G.att ha
  obtain ⟨z,h5,h6⟩:=ns_find G r nm
  obtain ⟨u',h7,r5⟩:=h6.get eu
  rw [e0]
  exact get_value (kIn G I) ia (plainGet_of h1).1 (findObj_own h2 h3 h4 (h7 ▸ h5)) (handed r5) ((P.nx X).tik I r5)) (by
   show eval (.Attribute (untr g.N s) (g.N nm) (pz p)) c.env=_
   rw [arm_eval_Attribute,attrBase g.N hn])
theorem form_untr (N:Nat→Str) (pos:Pos) (env:Env) (xs:List MX):(backTo pos (starEach (untrL N xs) env)).all (!·.1)=true∧(backTo pos (starEach (untrL N xs) env)).any (·.1)=false∧(untrL N xs).length=xs.length:=by
 induction xs with
 | nil=>exact ⟨rfl,rfl,rfl⟩
 | cons x xs ih =>
  show (backTo pos (starEach (untr N x::untrL N xs) env)).all (!·.1)=true∧(backTo pos (starEach (untr N x::untrL N xs) env)).any (·.1)=false∧_
  rw [star_untr]
  exact ⟨ih.1,ih.2.1,congrArg (·+1) ih.2.2⟩
noncomputable def Keeps (g:Gd) (f:Value):Prop:=∀ h',g.st.K.In h'→∃ k,(k=Keeper.frame∨k=Keeper.machine∨k=Keeper.boundFrame)∧Looks (model g.st.prog g.st.w) h' (keeperOf f) k
theorem args_ok (G:GdOK g) (he:EvS g o.ev) {pos:Pos} {f:Value} {first:List Value} {xs:List MX} {us:List AV} (hk:Keeps g f) (q:evs o.ev fm xs H=some (us,H1)) (I:In g c fm w H) (k:PoL g c fm H1 us (fun vs s=>wpAny (model g.st.prog g.st.w) c.A (call f (first++vs)) Q c.E s) w) :
  Wp g c (callWith pos f first (backTo pos (starEach (untrL g.N xs) c.env)) []) Q w:=by
 refine callWith_of (P:=g.st.K.In) (by rw [(form_untr _ _ _ _).2.1];rfl) hk ?_
 have go:=evs_ok he pos (Q:=fun vs s=>g.st.K.In s.heap∧wpAny (model g.st.prog g.st.w) c.A (call f (first++vs) []) Q c.E s) q I fun w1 xs X I r=>⟨kIn G I,k w1 xs X I r⟩
 cases xs with
 | nil=>exact pr_e q fun e1 e2=>evalArgs_nil3 ⟨kIn G I,k w [] .rfl (e2 ▸ I) (e1 ▸ rfl)⟩
 | cons x r =>
  have z:=star_untr g.N x (untrL g.N r) c.env
  rw [show untrL g.N (x::r)=untr g.N x::untrL g.N r from rfl] at go ⊢
  rw [z] at go ⊢
  exact evalArgs_plain go
noncomputable def CallD (g:Gd) (call:Nat→AV→List AV→Hp→Option (AV×Hp)):Prop:=∀ {dep f vs H r},call dep f vs H=some r→(∃ k,f=.fn k∧(g.C.fn k).isSome=true)∨∃ k,f=.cl k∧(g.C.cl k).isSome=true
theorem keeps_call (G:GdOK g) (hcd:CallD g o.call) {d:Nat} {us:List AV} {R:AV×Hp} {k:Kn} (e:o.call d a us H=some R) (r:VR g k a x):Keeps g x:=by
 rcases hcd e with ⟨i,rfl,h⟩ | ⟨i,rfl,h⟩
 ·rw [show x=.ref (g.st.fnA i) from r];exact fun h' X=>keeps_K (G.kef h) h' X
 ·rw [show x=.ref (g.st.clA i) from r];exact fun h' X=>keeps_K (G.kec h) h' X
theorem keeps_b {s:String}:Keeps g (.builtin s):=fun h' X=>⟨.machine,.inr (.inl rfl),Looks.of_pure rfl⟩
theorem keeps_pr (k:PK):Keeps g (pkV k):=fun h' X=>⟨.machine,.inr (.inl rfl),by cases k <;> exact Looks.of_pure rfl⟩
noncomputable def methId (u:List Nat) (a:AV):String:=cond (strV a).isSome (cond (listBeq u wJoin) "str.join" "str.split") (cond (listBeq u wApp) "list.append" (cond (listBeq u wPop) "list.pop" "list.extend"))
noncomputable def MethS (g:Gd):Prop:=∀ {c fm u a vs H v H' w Q xa xs},methV u a vs H=some (v,H')→In g c fm w H→VR g w.k a xa→VRL g w.k vs xs→Po g c fm H' v Q w→Wp g c (call (.builtin (methId u a)) (xa::xs)) Q w
theorem cdN (G:GdOK g) {nm:Nat} {l:List Nat} (e:listBeq (g.C.cd nm) l=true):g.N nm=toS l:=by rw [← G.cd,lb_iff.mp e]
theorem meth_get (G:GdOK g) {nm:Nat} {us:List AV} {R:AV×Hp} {pl:Sem Bool} {Q:Value×List Value→Shared→Prop} (hb:okBase H a=true) (e:methV (g.C.cd nm) a us H2=some R) (I:In g c fm w H) (r:VR g w.k a x) (h:Q (.builtin (methId (g.C.cd nm) a),[x]) w.s):Wp g c (getMethod x (g.N nm) pl) Q w:=by
 cases es:strV a with
 | some s =>
  rw [strV_eq es] at e r h
  obtain ⟨_,t,rfl⟩:=r
  refine alt_e e (fun e=>ob_e e fun s' _ e=>ob_e e fun b _ e=>?_) fun e=>nos e
  cases c0:listBeq (g.C.cd nm) wJoin with
  | true=>rw [cdN G c0];unfold methId at h;rw [c0] at h;exact GM.join h
  | false =>
   rw [c0] at e
   exact gb_e e fun c1 e=>by rw [cdN G c1];unfold methId at h;rw [c0] at h;exact GM.split h
 | none =>
  unfold okBase at hb
  rw [es] at hb
  refine optB_e hb fun n en hl=>?_
  obtain ⟨l,el⟩:=Option.isSome_iff_exists.mp hl
  rw [locV_eq en] at r e h
  obtain ⟨d,vs,rfl,⟨m,hd⟩,rl⟩:=loc_list el I r
  have hT:w.s.TypeIs (.ref d) "list":=⟨_,hd,rfl⟩
  have hn:∀ b,Value.ref d=.ref b→∃ o,w.s.heap.get? b=some o∧o.dict=none:=fun b e=>by injection e with e;subst e;exact ⟨_,hd,rfl⟩
  refine alt_e e (fun e=>nos e) fun e=>ob_e (o:=some n) e fun _ _ e=>ob_e e fun l _ e=>?_
  unfold methL at e
  unfold methId at h
  cases c0:listBeq (g.C.cd nm) wApp with
  | true=>rw [c0] at h;rw [cdN G c0];exact getMethod_builtin hT F.plainAttrs_list F.slot_list_append F.type_list_append hn h
  | false =>
   rw [c0] at h e
   cases c1:listBeq (g.C.cd nm) wPop with
   | true=>rw [c1] at h;rw [cdN G c1];exact getMethod_builtin hT F.plainAttrs_list F.slot_list_pop F.type_list_pop hn h
   | false =>
    rw [c1] at h e
    exact gb_e e fun c2 e=>by rw [cdN G c2];exact getMethod_builtin hT F.plainAttrs_list F.slot_list_extend F.type_list_extend hn h
theorem meth_ok (G:GdOK g) (he:EvS g o.ev) (hcall:CallS g o.call) (hcd:CallD g o.call) (hm:MethS g) {s:MX} {nm ap:Nat} {xs:List MX} (q:gb (Nat.beq (ap / 1000 % 1000) (p / 1000000000)&&le xs.length 20&&noCall0 s) (ob2 (o.ev fm s H) fun a H=>ob2 (evs o.ev fm xs H) fun vs H2=>Option.rec (gb (okBase H a) (methV (g.C.cd nm) a vs H2))
   (fun p=>ob (g.C.cl p.1) fun ci=>ob (lookN ci.meths nm) fun f=>gb (!(lookN p.2 nm).isSome) (o.call fm.dep (.fn f) (a::vs) H2)) (objV g.C H a))=some (v,H')) (I:In g c fm w H) (P:Po g c fm H' v Q w):We g c (.meth s nm xs ap p) Q w :=
 gb_e q fun hz q=>and_e hz fun hz hn=>and_e hz fun h1 h2=>by
  refine methodCall_KW (pl:=(do return (← importBound (untr g.N s) c.env).getD true)) (he.ob q I fun a H1 q w1 xa X I1 ra=>ob2_e q fun us H2 e2 q=>?_) (by
   show eval (.Call (.Attribute (untr g.N s) (g.N nm) (pz ap)) (untrL g.N xs) [] (pz p)) c.env=_
   rw [arm_eval_Call,attrBase g.N hn]
   have f:=form_untr g.N (pz p) c.env xs
   have e1:methodCallForm ((untrL g.N xs).length+([]:List Keyword).length) (backTo (pz p) (starEach (untrL g.N xs) c.env)) (backToKw (pz p) (keywordEach [] c.env))=true:=by
    unfold methodCallForm
    rw [f.1,f.2.2]
    have:=Nat.le_of_ble_eq_true h2
    simp [keywordEach,backToKw]
    omega
   have e2:methodCallPos true (untr g.N s) c.env (pz ap) (pz p)=pure (pz p):=by
    unfold methodCallPos
    rw [show (pz ap).endLine=(pz p).line from Nat.eq_of_beq_eq_true h1];simp
   unfold methodCall calleeOf
   rw [e1,e2]
   simp only [if_true,pure_bind])
  cases eo:objV g.C H1 a with
  | none =>
   rw [eo] at q
   exact gb_e q fun hb q=>meth_get G hb q I1 ra (args_ok G he keeps_b e2 I1 fun w2 rs Y I2 rr=>hm q I2 (ra.up Y.u) rr ((P.nx X).nx Y))
  | some pr =>
   rw [eo] at q
   refine ob_e q fun ci ec q=>ob_e q fun f ef q=>gb_e q fun en q=>objV_r (k:=pr.1) (fs:=pr.2) eo I1 ra fun d dx es m e0 ia r=>?_
   obtain ⟨m1,m2,m3⟩:=G.met ec ef
   obtain ⟨z,h5,h6⟩:=ns_find G r nm
   have hz:z=none:=by
    cases el:lookN pr.2 nm with
    | none=>rw [el] at h6;exact h6
    | some v=>rw [el] at en;exact nft en
   subst hz
   rw [e0] at ra ⊢
   exact method_fn (kIn G I1) ia (plainGet_of m1).1 (plainGet_of m1).2 m2 (beq_iff_eq.mp m3) (by show (getL (g.N nm) es).map _=_;rw [h5];rfl) (args_ok G he (keeps_call G hcd (k:=w1.k) q rfl) e2 I1 fun w2 rs Y I2 rr=>hcall q I2 rfl ⟨_,_,rfl,ra.up Y.u,rr⟩ ((P.nx X).nx Y))
end
end
section
section
variable {g:Gd} {c:Cx} {fm:Fm} {w w1:Wo} {H H' H1 H2:Hp} {a b v:AV} {l:List AV} {x xa xb:Value} {y:MX} {vs:List Value} {tk p:Nat} {Q:Value→Shared→Prop} {r:Res} {o:Ops} {n:Nat}
theorem stored_head {k0 k:Str} {x v:Value} {ps:List (Str×Value)} (nd:((k0,x)::ps).map (·.1) |>.Nodup):stored ((k0,x)::ps) k v=if k0=k then (k0,v)::ps else (k0,x)::stored ps k v:=by
 rw [List.map_cons,List.nodup_cons] at nd
 unfold stored
 by_cases e:k0=k
 ·subst e
  have h1:ps.map (fun kv=>if kv.1=k0 then (kv.1,v) else kv)=ps:=(List.map_congr_left fun p hp=>if_neg fun q=>nd.1 (List.mem_map.mpr ⟨p,hp,q⟩)).trans (List.map_id ps)
  simp [h1]
 ·simp only [List.any_cons,e,decide_false,Bool.false_or,if_false,List.map_cons]
  split <;> rfl
theorem stored_mem {k:Str} {v:Value} {ps:List (Str×Value)} {q:Str×Value} (h:q∈stored ps k v):q.1=k∨∃ q'∈ps,q'.1=q.1:=by
 unfold stored at h
 split at h
 ·obtain ⟨q',h1,h2⟩:=List.mem_map.mp h
  refine .inr ⟨q',h1,?_⟩
  rw [← h2];split <;> rfl
 ·rcases List.mem_append.mp h with h | h
  ·exact .inr ⟨q,h,rfl⟩
  ·exact .inl (congrArg (·.1) (List.mem_singleton.mp h))
theorem stored_nodup {k:Str} {v:Value} {ps:List (Str×Value)} (nd:(ps.map (·.1)).Nodup):((stored ps k v).map (·.1)).Nodup:=by
 induction ps with
 | nil=>exact List.nodup_cons.mpr ⟨List.not_mem_nil,List.nodup_nil⟩
 | cons q ps ih =>
  rw [stored_head nd]
  rw [List.map_cons,List.nodup_cons] at nd
  split
  ·exact List.nodup_cons.mpr nd
  ·rename_i e
   refine List.nodup_cons.mpr ⟨fun z=>?_,ih nd.2⟩
   obtain ⟨q',h1,h2⟩:=List.mem_map.mp z
   rcases stored_mem h1 with h | ⟨q2,h3,h4⟩
   ·exact e (h2.symm.trans h)
   ·exact nd.1 (List.mem_map.mpr ⟨q2,h3,h4.trans h2⟩)
theorem dc_put {k:Kn} {s:List Nat} (r:VR g k a x) {es:List (List Nat×AV)}:∀ {ps:List (Str×Value)},LR (dcE g k) es ps→(ps.map (·.1)).Nodup→LR (dcE g k) (putS es s a) (stored ps (toS s) x):=by
 induction es with
 | nil=>exact fun q nd=>q.n (.one ⟨rfl,r⟩)
 | cons e es ih =>
  intro ps q
  refine q.c fun p us h q nd=>?_
  rw [stored_head nd]
  show LR _ (cond (listBeq e.1 s) ((e.1,a)::es) (e::putS es s a)) _
  by_cases z:e.1=s
  ·rw [lb_iff.mpr z,if_pos (h.1.trans (congrArg toS z))];exact .cons ⟨h.1,r⟩ q
  ·rw [Bool.eq_false_iff.mpr fun y=>z (lb_iff.mp y),if_neg fun y=>z (toS_inj (h.1.symm.trans y))]
   exact .cons h (ih q (List.nodup_cons.mp nd).2)
theorem dc_fold {k:Kn} {its:List (List Nat×AV)}:∀ {kvs:List (Str×Value)} {es ps},LR (dcE g k) its kvs→LR (dcE g k) es ps→(ps.map (·.1)).Nodup→LR (dcE g k) (its.foldl (fun e p=>putS e p.1 p.2) es) (merged ps kvs):=by
 induction its with
 | nil=>exact fun r q nd=>r.n q
 | cons p its ih =>
  exact fun {kvs es ps} r q nd=>r.c (X:=fun kvs=>LR (dcE g k) (its.foldl (fun e p=>putS e p.1 p.2) (putS es p.1 p.2)) (merged ps kvs)) fun kv us h r=>by
   have z:=dc_put h.2 (s:=p.1) q nd
   rw [← h.1] at z
   exact (ih r z (stored_nodup nd) :)
theorem dictO_of {h:Heap} {d:Addr} {ps:List (Str×Value)} {st:St} (hd:h.DictOf (PySem.strKind st.prog st.w) d ps):∃ ob,h.get? d=some ob∧DictO st ob ps:=by
 obtain ⟨ob,es,ep,e,r⟩:=hd
 exact ⟨ob,e,fun h a e=>⟨ob,es,ep,e,r⟩⟩
noncomputable def pairT (g:Gd) (env:Env) (p:Pos) (ks:List MX):List MX→List (Sem Value×Sem Value):=lrec (fun _=>[]) (fun k _ q vs=>List.rec [] (fun v vs _=>(eval (untr g.N k) env,do let x ← eval (untr g.N v) env;standAt p;pure x)::q vs) vs) ks
theorem pairT_shape (g:Gd) (env:Env) (p:Pos) (ks:List MX):∀ vs:List MX,(evalEachOpt (untrO g.N ks) env).zip ((evalEach (untrL g.N vs) env).map fun v=>do let x ← v;standAt p;pure x)=(pairT g env p ks vs).map fun q=>(some q.1,q.2):=by
 induction ks with
 | nil=>exact fun _=>rfl
 | cons k ks ih=>exact fun vs=>by cases vs with
  | nil=>rfl
  | cons v vs=>exact congrArg (List.cons (some (eval (untr g.N k) env),(do let x ← eval (untr g.N v) env;standAt p;pure x:Sem Value))) (ih vs)
theorem pairT_len (g:Gd) (env:Env) (p:Pos) (ks:List MX):∀ vs:List MX,(pairT g env p ks vs).length≤ks.length:=by
 induction ks with
 | nil=>exact fun _=>Nat.le_refl _
 | cons k ks ih=>exact fun vs=>by cases vs with
  | nil=>exact Nat.zero_le _
  | cons v vs=>exact Nat.succ_le_succ (ih vs)
theorem pairs_ok (he:EvS g o.ev) (p:Pos) {ks:List MX}:∀ {ts:List MX} {es es':List (List Nat×AV)} {H w} {Q:List (Value×Value)→Shared→Prop},dctV o fm ks ts es H=some (es',H1)→In g c fm w H →
  (∀ w1 l kvs its,Ex (Own g c) w w1→In g c fm w1 H1→Carries (PySem.strKind g.st.prog g.st.w) l kvs→es'=its.foldl (fun e p=>putS e p.1 p.2) es→LR (dcE g w1.k) its kvs→Q l w1.s) →
  Wp g c (evalPairs (pairT g c.env p ks ts)) Q w:=by
 induction ks with
 | nil=>exact fun {ts es es' H w Q} e I k=>gb_e e fun _ e=>pr_e e fun e1 e2=>evalPairs_nil (k w [] [] [] .rfl (e2 ▸ I) trivial e1.symm rfl)
 | cons s ks ih =>
  exact fun {ts es es' H w Q} e I k=>by
   cases ts with
   | nil=>exact nos e
   | cons t ts =>
    refine evalPairs_cons (he.ob (f:=fun k H=>ob (strV k) fun s=>ob2 (o.ev fm t H) fun a H=>dctV o fm ks ts (putS es s a) H) e I fun ka H2 e w1 xk X I rk=>ob_e e fun s es e=>?_)
    refine wpAny_bind (he.ob (f:=fun a H=>dctV o fm ks ts (putS _ s a) H) e I fun a H3 e w2 xa Y I ra=>wpAny_bind (wpAny_standAt (wpAny_pure ?_)))
    have rk:=strV_r es rk
    exact ih e I fun w3 l kvs its Z I h1 h2 h3=>k w3 ((xk,xa)::l) ((toS s,xa)::kvs) ((s,a)::its) ((X.trans Y).trans Z) I ⟨skey rk,rfl,h1⟩ h2 (.cons ⟨rfl,ra.up Z.u⟩ h3)
theorem dct_ok (he:EvS g o.ev) {ks ts:List MX} (q:gb (le ks.length 15) (ob2 (dctV o fm ks ts [] H) fun es H=>some (newDict es H))=some (v,H')) (I:In g c fm w H) (P:Po g c fm H' v Q w):We g c (.dct ks ts p) Q w:=gb_e q fun hl q=>ob2_e q fun es H1 e q=>pr_e q fun e1 e2=>by
 subst e1;subst e2
 have n0:=size_none w.s.heap
 have G:=push_gr w.s.heap {cls:=.type "dict",data:=.dict #[]}
 have I1:=I.gr (tk:=w.s.toks) G
 have F1:Free ⟨w.k,{w.s with heap:=w.s.heap.push {cls:=.type "dict",data:=.dict #[]}}⟩ w.s.heap.objs.size:=I.new n0
 obtain ⟨ob,eo,hO⟩:=dictO_of (st:=g.st) (Heap.DictOf.new w.s.heap)
 cases ks with
 | nil =>
  refine gb_e e fun z e=>pr_e e fun e1 e2=>?_
  rw [List.isEmpty_iff.mp z]
  subst e1;subst e2
  exact wpAny_Dict_empty (Po.loc P I (Ex.gr G).wk I1 F1 n0 eo ⟨[],hO,rfl⟩)
 | cons k ks=>cases ts with
  | nil=>exact nos e
  | cons t ts =>
   refine wpAny_Dict_pairs (knd:=PySem.strKind g.st.prog g.st.w) (pairT_shape g c.env (pz p) (k::ks) (t::ts)) (List.cons_ne_nil _ _) (Nat.le_trans (pairT_len g c.env (pz p) (k::ks) (t::ts)) (Nat.le_of_ble_eq_true hl)) ?_
   refine pairs_ok (w:=⟨w.k,{w.s with heap:=w.s.heap.push {cls:=.type "dict",data:=.dict #[]}}⟩) he (pz p) e I1 fun w2 ps kvs its X I2 h1 h2 h3=>?_
   have na:=I.no n0
   have e2:=X.keep F1.2 na eo
   refine ⟨kvs,h1,hO _ _ e2,fun h' hm hs=>?_⟩
   obtain ⟨ob',eo',hO'⟩:=dictO_of hm
   have F2:=X.free eo F1
   obtain ⟨Y,I3⟩:=I2.poke (tk:=w2.s.toks+ps.length) F2 (I.nw n0) hs ⟨ob',eo'⟩
   have X0:Ex (Own g c) w w2:=(Ex.gr (tk:=w.s.toks) G).wk.trans X
   exact Po.loc P I (X0.own (Y.wk' fun _ z=>.inr z) fun b z=>z ▸ n0) I3 F2 n0 eo' ⟨_,hO',by
    rw [h2]
    exact dc_fold (h3.mono (dcE.up (adp_le I3.R.top))) rfl List.nodup_nil⟩
noncomputable def PrimS (g:Gd):Prop:=∀ {c fm k vs H r w Q xs},primV k vs H=some r→In g c fm w H→VRL g w.k vs xs→PoR g c fm H r Q w→Wp g c (call (pkV k) xs) Q w
noncomputable def DictS (g:Gd):Prop:=∀ {c fm vs H es w Q xs},dictV vs H=some es→In g c fm w H→VRL g w.k vs xs→Po g c fm (H++[.dict es]) (.loc H.length) Q w→Wp g c (call (pkV .dict) xs) Q w
noncomputable def CompS (g:Gd) (o:Ops):Prop:=∀ {c fm elt gens sc H l H' w Q p},compV g.st.I o fm elt gens sc H=some (l,H')→In g c fm w H→PoN g c fm H' l Q w→We g c (.comp elt gens sc p) Q w
noncomputable def sortL (ks:List (List Nat×DV)):List AV:=(ks.foldl (fun acc x=>insKey x.1 x.2 acc) []).map fun x=>.dat x.2
noncomputable def KeyS (g:Gd) (o:Ops):Prop:=∀ {c fm f dep ds H ks H' w Q xf x vs},keyed o f dep ds H=some (ks,H')→fm.dep=dep+1→In g c fm w H→VR g w.k f xf→Sq "list" w.h x vs→VRL g w.k (datL ds) vs→PoN g c fm H' (sortL ks) Q w →
 Wp g c (call (pkV .sorted) [.ref x] [(Str.ofString "key",xf)]) Q w
theorem callX {f:MX} {xs:List MX} (hg:isGlob f=true) (h:We g c f (fun f s₁=>wpAny (model g.st.prog g.st.w) c.A (callWith (pz p) f [] (backTo (pz p) (starEach (untrL g.N xs) c.env)) []) Q c.E s₁) w):We g c (.call f xs p) Q w:=by
 cases f <;> first | exact nft hg | exact Call_ h
theorem res_lst (he:EvS g o.ev) {xs:List MX} (q:ob2 (evs o.ev fm xs H) (fun vs H=>gb (le vs.length 10000) (some (.newl vs,H)))=some (r,H')) (I:In g c fm w H) (P:PoR g c fm H' r Q w):We g c (.lst xs p) Q w :=
 ob2_e q fun us H1 e q=>gb_e q fun hl q=>pr_e q fun e1 e2=>by
  subst e1;subst e2
  exact List_ (evs_ok he (pz p) e I fun w1 xs X I r=>wpAny_newList (PoN.lst (PoN.nx P X) I r) (by rw [r.len];exact szL (Nat.le_of_ble_eq_true hl)))
theorem part_ok (he:EvS g o.ev) {s:Option MX} {R:Option AV} {Q:Value→Shared→Prop} (e:optEv o fm s H=some (R,H')) (I:In g c fm w H) (k:∀ w1 x,Ex (Own g c) w w1→In g c fm w1 H'→VO g w1.k R x→Q x w1.s):Wp g c (evalPart (untrM g.N s) c.env) Q w:=by
 cases s with
 | none=>exact pr_e e fun e1 e2=>wpAny_pure (k w .none .rfl (e2 ▸ I) (e1 ▸ rfl))
 | some s=>exact he.ob (f:=fun v H=>some (some v,H)) e I fun a H1 e w1 x X I r=>pr_e e fun e1 e2=>k w1 x X (e2 ▸ I) (e1 ▸ r)
theorem VO.up {k k':Kn} {R:Option AV} (r:VO g k R x) (u:KLe k k'):VO g k' R x:=by
 cases R with
 | none=>exact r
 | some a=>exact VR.up r u
theorem res_slc (he:EvS g o.ev) {s:MX} {l u t:Option MX} {sp:Nat} (q:ob2 (o.ev fm s H) (fun a H=>ob2 (optEv o fm l H) fun l H=>ob2 (optEv o fm u H) fun u H=>ob2 (optEv o fm t H) fun s H=>ob (slcV H a l u s) fun r=>some (Res.newl r,H))=some (r,H')) (I:In g c fm w H) (P:PoR g c fm H' r Q w):We g c (.slc s l u t sp p) Q w:=by
 cases t with
 | none =>
  exact ob2_e q fun a H1 e1 q=>ob2_e q fun _ _ _ q=>ob2_e q fun _ _ _ q=>ob2_e (o:=some (none,_)) q fun _ _ e q=>pr_e e fun e1 e2=>by
   subst e1
   exact ob_e q fun r e q=>gb_e e fun q e=>and_e q fun _ q=>nft q
 | some t =>
  refine Subscript_ (he.ob q I fun a H1 q w1 xa X1 I1 ra=>ob2_e q fun lv H2 e2 q=>ob2_e q fun uv H3 e3 q=>ob2_e q fun tv H4 e4 q=>ob_e q fun m e5 q=>pr_e q fun e6 e7=>?_)
  subst e6;subst e7
  refine wpAny_Slice (part_ok he e2 I1 fun w2 xl X2 I2 rl=>part_ok he e3 I2 fun w3 xu X3 I3 ru=>part_ok he e4 I3 fun w4 xt X4 I4 rt=>?_)
  have G:=push_gr w4.s.heap {cls:=.type "slice",data:=.fields #[xl,xu,xt]}
  exact slc_ok (w:=⟨w4.k,{w4.s with heap:=w4.s.heap.push {cls:=.type "slice",data:=.fields #[xl,xu,xt]}}⟩) e5 (I4.gr (tk:=w4.s.toks) G) (((ra.up X2.u).up X3.u).up X4.u) ((rl.up X3.u).up X4.u) (ru.up X4.u) rt (Heap.IsSliceOf.new w4.s.heap xl xu xt)
   (PoN.nx P ((((X1.trans X2).trans X3).trans X4).trans (Ex.gr (tk:=w4.s.toks) G).wk))
theorem res_call (G:GdOK g) (he:EvS g o.ev) (hcall:CallS g o.call) (hcd:CallD g o.call) (hp:PrimS g) (hd:DictS g) {f:MX} {xs:List MX} (q:gb (isGlob f) (ob2 (o.ev fm f H) fun f H=>ob2 (evs o.ev fm xs H) fun vs H=>Option.rec (ob (o.call fm.dep f vs H) resV)
   (fun k=>cond (isDict k) (ob (dictV vs H) fun es=>resV (newDict es H)) (ob (primV k vs H) fun r=>some (r,H))) (prV f))=some (r,H')) (I:In g c fm w H) (P:PoR g c fm H' r Q w):We g c (.call f xs p) Q w :=
 gb_e q fun hg q=>callX hg (he.ob q I fun a H1 q w1 xf X I1 ra=>ob2_e q fun us H2 e2 q=>by
  cases ep:prV a with
  | none =>
   rw [ep] at q
   exact ob_e q fun R e q=>pr_e q fun e3 e4=>by
    subst e3;subst e4
    exact args_ok (first:=[]) G he (keeps_call G hcd e ra) e2 I1 fun w2 rs Y I2 rr=>hcall (v:=R.1) (H':=R.2) e I2 (ra.up Y.u) rr ((Po.nx P X).nx Y)
  | some k =>
   rw [ep] at q
   rw [prV_eq ep] at ra
   rw [show xf=pkV k from ra]
   refine args_ok (first:=[]) G he (keeps_pr k) e2 I1 fun w2 rs Y I2 rr=>?_
   replace q:cond (isDict k) (ob (dictV us H2) fun es=>resV (newDict es H2)) (ob (primV k us H2) fun r=>some (r,H2))=some (r,H'):=q
   cases ed:isDict k with
   | true =>
    rw [ed] at q
    have ek:k=.dict:=by cases k <;> first | rfl | exact nft ed
    subst ek
    exact ob_e q fun es e q=>pr_e q fun e3 e4=>by
     subst e3;subst e4
     exact hd e I2 rr ((Po.nx P X).nx Y)
   | false =>
    rw [ed] at q
    exact ob_e q fun r' e q=>pr_e q fun e3 e4=>by
     subst e3;subst e4
     exact hp e I2 rr ((PoR.nx P X).nx Y))
theorem res_key (G:GdOK g) (he:EvS g o.ev) (hkey:KeyS g o) {f kv:MX} {xs:List MX} {kn kp:Nat} (q:gb (isGlob f&&listBeq (g.C.cd kn) [107,101,121]) (ob2 (o.ev fm f H) fun f H=>ob (prV f) fun k=>gb (PK.rec false false false true false false false false k) (ob2 (evs o.ev fm xs H) fun vs H=>ob (v1 vs) fun a =>
   ob2 (o.ev fm kv H) fun g H=>ob (lstOf H a) fun l=>ob (allDat l) fun ds=>Nat.rec none (fun dep _=>ob2 (keyed o g dep ds H) fun ks H=>some (Res.newl ((ks.foldl (fun acc x=>insKey x.1 x.2 acc) []).map fun x=>.dat x.2),H)) fm.dep))=some (r,H')) (I:In g c fm w H) (P:PoR g c fm H' r Q w):We g c (.callk f xs kn kv kp p) Q w :=
 gb_e q fun hg q=>and_e hg fun hg hk=>by
  have hkn:g.N kn=Str.ofString "key":=(cdN G hk).trans (by decide)
  cases xs with
  | nil=>exact ob2_e q fun _ _ _ q=>ob_e q fun _ _ q=>gb_e q fun _ q=>ob2_e (o:=some ([],_)) q fun _ _ e q=>pr_e e fun e1 _=>ob_e q fun _ e _=>nos (e1 ▸ e)
  | cons y xs =>
   have he0:eval (untr g.N (.callk f (y::xs) kn kv kp p)) c.env=(do callWith (pz p) (← eval (untr g.N f) c.env) [] (backTo (pz p) (starEach (untrL g.N (y::xs)) c.env)) (backToKw (pz p) (keywordEach [⟨some (g.N kn),untr g.N kv,pz kp⟩] c.env))):=by
    cases f <;> first | exact nft hg | rfl
   show Wp g c (eval (untr g.N (.callk f (y::xs) kn kv kp p)) c.env) Q w
   rw [he0]
   refine wpAny_bind (he.ob q I fun a H1 q w1 xf X I1 ra=>ob_e q fun k ek q=>gb_e q fun hs q=>ob2_e q fun us H2 e2 q=>ob_e q fun d ed qq=>?_)
   rw [prV_eq ek] at ra
   have hs:k=.sorted:=by cases k <;> first | rfl | exact nft hs
   subst hs
   rw [show xf=pkV .sorted from ra]
   refine callWith_of (P:=g.st.K.In) ?_ (keeps_pr _) ?_
   ·rw [(form_untr g.N (pz p) c.env (y::xs)).2.1];rfl
   ·refine evalArgs_kw2 rfl ?_ (star_untr _ _ _ _)
    refine evs_ok he (pz p) (xs:=y::xs) e2 I1 fun w2 rs Y I2 rr=>kwAll_cons (he.ob (f:=fun g H=>ob (lstOf H d) fun l=>ob (allDat l) fun ds=>Nat.rec none (fun dep _=>ob2 (keyed o g dep ds H) fun ks H=>some (Res.newl (sortL ks),H)) fm.dep) qq I2 fun gv H3 q w3 xg Z I3 rg=>kwAll_nil ⟨kIn G I3,?_⟩)
    rw [v1_eq ed] at rr
    obtain ⟨xd,us,rfl,rd,hus⟩:=rr
    have hus:us=[]:=hus
    subst hus
    refine ob_e q fun m em q=>ob_e q fun ds eds q=>?_
    cases edp:fm.dep with
    | zero=>rw [edp] at q;exact nos q
    | succ dep =>
     rw [edp] at q
     exact ob2_e q fun ks H4 ek q=>pr_e q fun e3 e4=>by
      subst e3;subst e4
      obtain ⟨x,ws,rfl,hx,hr⟩:=lstOf_r em I3 (rd.up Z.u)
      rw [allDat_eq eds] at hr
      have:=hkey ek edp I3 rg hx hr (PoN.nx P ((X.trans Y).trans Z))
      rw [← hkn] at this
      exact this
theorem res_ok (G:GdOK g) (he:EvS g o.ev) (hcall:CallS g o.call) (hcd:CallD g o.call) (hp:PrimS g) (hd:DictS g) (hcomp:CompS g o) (hkey:KeyS g o) (q:evRes g.st.I g.C o fm y H=some (r,H')) (I:In g c fm w H) (P:PoR g c fm H' r Q w):We g c y Q w:=by
 cases y with
 | lst xs p=>exact res_lst he q I P
 | comp elt gens sc p =>
  replace q:ob2 (compV g.st.I o fm elt gens sc H) (fun vs H=>some (.newl vs,H))=some (r,H'):=q
  exact ob2_e q fun l H1 e q=>pr_e q fun e1 e2=>by subst e1;subst e2;exact hcomp e I P
 | bin op s t p =>
  exact wpAny_BinOp (he.ob (f:=fun a H=>ob2 (o.ev fm t H) fun b H=>ob (binV op H a b) fun r=>some (r,H)) q I fun a H1 q w1 xa X I1 ra=>he.ob (f:=fun b H=>ob (binV op H a b) fun r=>some (r,H)) q I1 fun b H2 q w2 xb Y I2 rb=>ob_e q fun r' e q=>pr_e q fun e1 e2=>by
   subst e1;subst e2;exact bin_ok e I2 (ra.up Y.u) rb ((PoR.nx P X).nx Y))
 | slc s l u t sp p=>exact res_slc he q I P
 | call f xs p=>exact res_call G he hcall hcd hp hd q I P
 | callk f xs kn kv kp p=>exact res_key G he hkey q I P
 | _=>exact nos q
theorem ev_ok [OpqE] (G:GdOK g) (T:TokOK g) (he:EvS g o.ev) (hc:CdS g o.cd) (hcall:CallS g o.call) (hcd:CallD g o.call) (hp:PrimS g) (hd:DictS g) (hm:MethS g) (hcomp:CompS g o) (hkey:KeyS g o):EvS g (evStep g.st.I g.C o):=fun {c fm x H v H' w Q} q I P=>by
 have mk:∀ {t y},evMaker g.st.I g.C o fm t y H=some (v,H')→We g c y Q w:=fun q=>ob2_e q fun r H1 e q=>res_ok G he hcall hcd hp hd hcomp hkey e I (putRes_ok q I P)
 cases x with
 | var i p=>exact ev_var G q I P
 | glob i p=>exact ev_glob G q I P
 | const k p=>exact pr_e q fun e1 e2=>by subst e1;subst e2;exact ev_const G I P
 | bop t xs p =>
  show Wp g c (eval (.BoolOp (if t then .And else .Or) (untrL g.N xs) (pz p)) c.env) _ _
  rw [arm_eval_BoolOp]
  exact bop_ok he t (pz p) q I P
 | not y p =>
  replace q:ob2 (o.ev fm y H) (fun v H=>ob (boolV v) fun b=>some (.dat (.bool (!b)),H))=some (v,H'):=q
  exact wpAny_UnaryOp (he.ob q I fun a H1 q w1 xa X I1 ra=>ob_e q fun b e q=>pr_e q fun e1 e2=>by
   subst e1;subst e2;rw [boolV_r e ra];exact not_value (wpAny_truthy_bool (P w1 _ X I1 rfl)))
 | neg y p =>
  replace q:ob2 (o.ev fm y H) (fun v H=>ob (intV v) fun i=>some (.dat (.int (-i)),H))=some (v,H'):=q
  exact wpAny_UnaryOp (he.ob q I fun a H1 q w1 xa X I1 ra=>ob_e q fun b e q=>pr_e q fun e1 e2=>by
   subst e1;subst e2;obtain ⟨t,rfl⟩:=intV_r e ra;exact neg_int ((P.nx X).tik I1 ⟨_,rfl⟩))
 | ite t u e p=>exact ite_ok he hc q I P
 | tup xs k p=>exact tup_ok he q I P
 | dct ks ts p=>exact dct_ok he q I P
 | cmp op s t p =>
  replace q:ob2 (o.ev fm s H) (fun a H=>ob2 (o.ev fm t H) fun b H=>ob (cmpOpV g.C.base op H a b) fun r=>some (.dat (.bool r),H))=some (v,H'):=q
  exact wpAny_Compare1 (cmpE G T he (f:=fun r H=>some (AV.dat (.bool r),H)) (R:=(v,H')) q I fun r H2 q w' X I=>pr_e q fun e1 e2=>P w' _ X (e2 ▸ I) (e1 ▸ rfl)) (marks_untr g.N op t)
 | meth s nm xs ap p=>exact meth_ok G he hcall hcd hm q I P
 | attr s nm p=>exact attr_ok G he q I P
 | sub s i p=>exact sub_okE he q I P
 | gen t it ifs=>exact nos q
 | mk y=>exact mk (y:=y) q
 | lst xs p=>exact mk q
 | comp elt gens sc p=>exact mk q
 | bin op s t p=>exact mk q
 | slc s l u t sp p=>exact mk q
 | call f xs p=>exact mk q
 | callk f xs kn kv kp p=>exact mk q
theorem cd_ok [OpqE] (G:GdOK g) (T:TokOK g) (he:EvS g o.ev) (hc:CdS g o.cd):CdS g (cdStep g.C o):=fun {c fm x H b H' w Q} q I P=>by
 have dflt:ob2 (o.ev fm x H) (fun v H=>ob (boolV v) fun b=>some (b,H))=some (b,H')→(∀ whole:Sem Value,isTrue (untr g.N x) c.env whole=(do let v ← whole;standAt (untr g.N x).pos;holding [v] (truthy v)))→Wp g c (isTrue (untr g.N x) c.env (eval (untr g.N x) c.env)) Q w:=fun q h =>
  wpAny_isTrue_value (he.ob q I fun a H1 q w1 xa X I1 ra=>ob_e q fun b' e q=>pr_e q fun e1 e2=>by
   subst e1;subst e2;rw [boolV_r e ra];exact wpAny_truthy_bool (P w1 X I1)) (h _)
 cases x with
 | not y p =>
  replace q:ob2 (o.cd fm y H) (fun b H=>some (!b,H))=some (b,H'):=q
  exact wpAny_isTrue_Not (hc.ob q I fun b' H1 q w1 X I=>pr_e q fun e1 e2=>by subst e1;subst e2;exact P w1 X I)
 | bop t xs p=>exact wpAny_isTrue_BoolOp (bopC_ok hc t q I P)
 | ite t u e p=>exact iteC_ok hc q I P
 | cmp op s t p =>
  replace q:ob2 (o.ev fm s H) (fun a H=>ob2 (o.ev fm t H) fun b H=>ob (cmpOpV g.C.base op H a b) fun r=>some (r,H))=some (b,H'):=q
  exact wpAny_isTrue_Compare1 (cmpE G T he (f:=fun r H=>some (r,H)) (Q:=fun r s=>wpAny _ _ (truthy r) Q _ s) q I fun r H2 q w' X I=>pr_e q fun e1 e2=>by subst e1;subst e2;exact wpAny_truthy_bool (P w' X I)) (marks_untr g.N op t)
 | mk x=>exact nos q
 | gen t it ifs=>exact nos q
 | _=>exact dflt q fun _=>rfl
end
end
section
noncomputable def FlR (g:Gd) (k:Kn) (fl:Fl) (f:Flow):Prop:=Fl.casesOn fl (f=.next) fun v=>∃ x,f=.ret x∧VR g k v x
noncomputable def PoS (g:Gd) (c:Cx) (H:Hp) (fl:Fl) (fm:Fm) (Q:Flow→Shared→Prop) (w:Wo):Prop:=∀ w' f,Ex (Own g c) w w'→FlR g w'.k fl f→In g c fm w' H→Q f w'.s
noncomputable def ExS (g:Gd) (ex:Fm→MS→Hp→Option (Fl×Fm×Hp)):Prop:=∀ {c fm st H fl fm' H' w Q},ex fm st H=some (fl,fm',H')→In g c fm w H→PoS g c H' fl fm' Q w→Wp g c (exec (untrS g.N st) c.env) Q w
noncomputable def PoU (g:Gd) (c:Cx) (H:Hp) (fm:Fm) (Q:Unit→Shared→Prop) (w:Wo):Prop:=∀ w',Ex (Own g c) w w'→In g c fm w' H→Q () w'.s
section
variable {g:Gd} {c:Cx} {fm fm':Fm} {w w1:Wo} {H H' H1 H2:Hp} {a b v:AV} {l:List AV} {x xa xb:Value} {y:MX} {vs:List Value} {tk p:Nat} {Q:Flow→Shared→Prop} {QU:Unit→Shared→Prop} {r:Res} {o:Ops} {n i:Nat} {fl:Fl}
theorem PoS.nx (P:PoS g c H fl fm Q w) (X:Ex (Own g c) w w1):PoS g c H fl fm Q w1:=fun w' f Y=>P w' f (X.trans Y)
theorem PoU.nx (P:PoU g c H fm QU w) (X:Ex (Own g c) w w1):PoU g c H fm QU w1:=fun w' Y=>P w' (X.trans Y)
theorem beq_f {i j:Nat} (h:i≠j):Nat.beq i j=false:=Bool.eq_false_iff.mpr fun q=>h (Nat.eq_of_beq_eq_true q)
theorem lookN_put {α:Type} (v:α) (i j:Nat) (l:List (Nat×α)):lookN (putN l i v) j=if j=i then some v else lookN l j:=by
 induction l with
 | nil =>
  show cond (Nat.beq i j) (some v) none=_
  by_cases e:j=i
  ·subst e;rw [Nat.beq_refl,if_pos rfl];rfl
  ·rw [beq_f fun q=>e q.symm,if_neg e];rfl
 | cons q l ih =>
  show lookN (cond (Nat.beq q.1 i) ((i,v)::l) (q::putN l i v)) j=if j=i then some v else cond (Nat.beq q.1 j) (some q.2) (lookN l j)
  by_cases e:q.1=i
  ·rw [e,Nat.beq_refl]
   show cond (Nat.beq i j) (some v) (lookN l j)=_
   by_cases z:j=i
   ·rw [z,Nat.beq_refl,if_pos rfl];rfl
   ·rw [beq_f fun q=>z q.symm,if_neg z];rfl
  ·rw [beq_f e]
   show cond (Nat.beq q.1 j) (some q.2) (lookN (putN l i v) j)=_
   by_cases z:q.1=j
   ·rw [z,Nat.beq_refl,if_neg (z ▸ e)];rfl
   ·rw [beq_f z,ih];rfl
theorem stores_kind {sc:Sc} (e:stores sc i=true):lookN sc i=some .local∨lookN sc i=some .cell:=optB_e e fun k e h=>by
 rw [e];cases k with
 | «local»=>exact .inl rfl
 | cell=>exact .inr rfl
 | _=>exact nft h
theorem store_ok (G:GdOK g) (hst:stores fm.sc i=true) (I:In g c fm w H) (r:VR g w.k v x) (P:PoU g c H {fm with vars:=putN fm.vars i v} QU w):Wp g c (storeName c.env (g.N i) x) QU w:=by
 rcases stores_kind hst with hk | hk
 ·have hlo:kindOfI fm.sc i=some .lo:=congrArg (fun o=>ob o vkOf) hk
  obtain ⟨m,n,km⟩:=I.loc
  refine wpAny_storeName_local (I.st.nlo hlo) n (fun h' hn hs=>?_) (by rw [I.st.kind];rfl)
  refine P ⟨w.k,_⟩ (Ex.but hs (Ns.get hn) (.inl rfl)) ⟨I.hs,I.st,I.R.but I.Lf hs,I.Lf,fun h1 h2=>?_,⟨_,hn,fun {j u} e q=>?_⟩,fun {j u} e q=>?_⟩
  ·obtain ⟨n1,n2,o,y,e,d⟩:=I.cf h1 h2
   exact ⟨n1,n2,o,y,(hs.2 _ n1).trans e,d⟩
  ·have e:=(lookN_put v i j fm.vars).symm.trans e
   by_cases z:j=i
   ·rw [if_pos z] at e
    exact ⟨x,if_pos (congrArg g.N z),Option.some.inj e ▸ r⟩
   ·rw [if_neg z] at e
    obtain ⟨y,hy,ry⟩:=km e q
    exact ⟨y,(if_neg fun z'=>z (G.inj z')).trans hy,ry⟩
  ·have e:=(lookN_put v i j fm.vars).symm.trans e
   rw [if_neg fun (z:j=i)=>by rw [z] at q;rw [show kindOfI fm.sc i=some .ce from q] at hlo;exact VK.noConfusion (Option.some.inj hlo)] at e
   obtain ⟨d,o,y,e1,e2,e3,ry⟩:=I.cel e q
   exact ⟨d,o,y,e1,(hs.2 _ (I.cf q e1).1).trans e2,e3,ry⟩
 ·have hce:kindOfI fm.sc i=some .ce:=congrArg (fun o=>ob o vkOf) hk
  obtain ⟨_,d,ec⟩:=I.st.nce hce
  obtain ⟨n1,n2,oo,y,eo,ey⟩:=I.cf hce ec
  refine wpAny_storeName_cell I.st.kind (I.st.own hk) ec ⟨oo,eo,ey⟩ fun h' hv hs=>?_
  obtain ⟨o',ho',hd'⟩:=hv
  refine P ⟨w.k,_⟩ (Ex.but hs ⟨o',ho'⟩ (.inr ⟨i,by rw [← I.hs];exact hk,ec⟩)) ⟨I.hs,I.st,I.R.but n2 hs,I.Lf,fun {j b} h1 h2=>?_,?_,fun {j u} e q=>?_⟩
  ·obtain ⟨m1,m2,o,z,e,ez⟩:=I.cf h1 h2
   by_cases q:b=d
   ·rw [q] at m1 m2 ⊢;exact ⟨m1,m2,o',_,ho',hd'⟩
   ·exact ⟨m1,m2,o,z,(hs.2 _ q).trans e,ez⟩
  ·obtain ⟨m,n,km⟩:=I.loc
   refine ⟨m,Ns.at_ n fun o e=>(hs.2 _ n1.symm).trans e,fun {j u} e q=>?_⟩
   have e:=(lookN_put v i j fm.vars).symm.trans e
   rw [if_neg fun (z:j=i)=>by rw [z] at q;rw [show kindOfI fm.sc i=some .lo from q] at hce;exact VK.noConfusion (Option.some.inj hce)] at e
   exact km e q
  ·have e:=(lookN_put v i j fm.vars).symm.trans e
   by_cases z:j=i
   ·rw [if_pos z] at e
    rw [z];exact ⟨d,o',x,ec,ho',hd',Option.some.inj e ▸ r⟩
   ·rw [if_neg z] at e
    obtain ⟨d',o,y,e1,e2,e3,ry⟩:=I.cel e q
    exact ⟨d',o,y,e1,(hs.2 _ fun (z':d'=d)=>z (I.st.inj q hce e1 (by rw [z'];exact ec))).trans e2,e3,ry⟩
theorem asVar_eq {t:MX} (e:asVar t=some i):∃ p,t=.var i p:=by
 cases t with
 | var j p=>exact ⟨p,congrArg (fun j=>MX.var j p) (Option.some.inj e)⟩
 | _=>exact nos e
noncomputable abbrev VarL:List MX→List Nat→Prop:=LR fun t i=>asVar t=some i
noncomputable abbrev putAll (vs:List (Nat×AV)) (is:List Nat) (l:List AV):List (Nat×AV):=(is.zip l).foldl (fun a p=>putN a p.1 p.2) vs
theorem asgNames_r {sc:Sc} {ts:List MX}:∀ {l:List AV} {vs vs':List (Nat×AV)},asgNames sc ts l vs=some vs'→∃ is,VarL ts is∧is.length=l.length∧(∀ i∈is,stores sc i=true)∧vs'=putAll vs is l:=by
 induction ts with
 | nil=>exact fun {l vs vs'} e=>gb_e e fun q e=>⟨[],rfl,by rw [List.isEmpty_iff.mp q];rfl,(fun _ h=>nomatch h),(Option.some.inj e).symm⟩
 | cons t ts ih =>
  exact fun {l vs vs'} e=>by
   cases l with
   | nil=>exact nos e
   | cons x l =>
    exact ob_e (o:=asVar t) e fun i ei e=>gb_e e fun hs e=>(ih e).elim fun is h=>⟨i::is,.cons ei h.1,congrArg (·+1) h.2.1,fun j q=>by
     rcases List.mem_cons.mp q with q | q
     ·rw [q];exact hs
     ·exact h.2.2.1 j q,h.2.2.2⟩
noncomputable def StoreR (g:Gd) (c:Cx) (i:Nat) (T:Value→Sem Unit):Prop:=∀ v A' E' Q s,wpAny (model g.st.prog g.st.w) A' (storeName c.env (g.N i) v) Q E' s→wpAny (model g.st.prog g.st.w) A' (T v) Q E' s
theorem stores_ok (G:GdOK g) {is:List Nat}:∀ {Ts:List (Value→Sem Unit)} {xs:List AV} {rs:List Value} {fm:Fm} {w},LR (StoreR g c) is Ts→is.length=xs.length→(∀ i∈is,stores fm.sc i=true)→In g c fm w H→VRL g w.k xs rs→PoU g c H {fm with vars:=putAll fm.vars is xs} QU w→Wp g c (assignInOrder Ts rs) QU w:=by
 induction is with
 | nil =>
  intro Ts xs rs fm w hT hl hs I r P
  have e:xs=[]:=List.eq_nil_of_length_eq_zero hl.symm
  subst e
  exact hT.n (r.n (by unfold assignInOrder;exact wpAny_pure (P w .rfl I)))
 | cons i is ih =>
  intro Ts xs rs fm w hT hl hs I r P
  cases xs with
  | nil=>exact absurd hl (Nat.succ_ne_zero _)
  | cons x xs =>
   refine hT.c fun T Ts hT1 hT=>r.c fun v us r1 r=>?_
   unfold assignInOrder
   refine wpAny_bind (wpAny_holding (hT1 _ _ _ _ _ (store_ok G (hs i (List.mem_cons_self ..)) I r1 fun w1 X I1=>?_)))
   exact ih (fm:={fm with vars:=putN fm.vars i x}) hT (Nat.succ.inj hl) (fun j q=>hs j (List.mem_cons_of_mem _ q)) I1 (r.up X.u) (P.nx X)
theorem each_vars {ts:List MX}:∀ {is:List Nat},VarL ts is→LR (StoreR g c) is ((assignEach (untrL g.N ts) c.env).map (·.2))∧(assignEach (untrL g.N ts) c.env).length=is.length∧(assignEach (untrL g.N ts) c.env).findIdx? (·.1)=none:=by
 induction ts with
 | nil=>exact fun h=>h.n ⟨rfl,rfl,rfl⟩
 | cons t ts ih =>
  refine fun h=>h.c fun i is e h'=>?_
  obtain ⟨p,rfl⟩:=asVar_eq e
  obtain ⟨h1,h2,h3⟩:=ih h'
  refine ⟨.cons (fun v A' E' Q s h=>wpAny_assign_Name h) h1,congrArg (·+1) h2,?_⟩
  show ((false,assign (.Name (g.N i) (pz p)) c.env)::assignEach (untrL g.N ts) c.env).findIdx? (·.1)=none
  rw [List.findIdx?_cons,h3];rfl
theorem asgTup_ok (G:GdOK g) {ts:List MX} {kk:Nat} {vs':List (Nat×AV)} {d:Addr} (e:asgNames fm.sc ts l fm.vars=some vs') (I:In g c fm w H) (ht:w.s.heap.IsTuple d vs.toArray) (r:VRL g w.k l vs) (P:PoU g c H {fm with vars:=vs'} QU w):Wp g c (assign (untr g.N (.tup ts kk p)) c.env (.ref d)) QU w:=by
 obtain ⟨is,h1,h2,h3,h4⟩:=asgNames_r e
 obtain ⟨e1,e2,e3⟩:=each_vars (g:=g) (c:=c) h1
 subst h4
 exact wpAny_assign_Tuple I.st.hd ht (by rw [e2,h2,List.size_toArray,r.len]) e3 fun h' he=>by
  have Gr:∀ b o,w.s.heap.get? b=some o→h'.get? b=some o:=fun b o e=>he b o (fun z=>by rw [z,size_none] at e;exact nos e) e
  exact stores_ok (w:=⟨w.k,{w.s with heap:=h',toks:=w.s.toks}⟩) G e1 h2 h3 (I.gr Gr) r (P.nx (Ex.gr Gr).wk)
theorem asMTup_eq {t:MX} {ts:List MX} (e:asMTup t=some ts):∃ k p,t=.tup ts k p:=by
 cases t with
 | tup l k p=>exact ⟨k,p,congrArg (fun l=>MX.tup l k p) (Option.some.inj e)⟩
 | _=>exact nos e
noncomputable def ItemR (g:Gd) (k:Kn) (h:Heap) (t:MX) (a:AV) (x:Value):Prop:=VR g k a x∨((asMTup t).isSome=true∧∃ l d vs,a=mkTup l∧x=.ref d∧h.IsTuple d (List.toArray vs)∧VRL g k l vs)
theorem tupI_mk {m:List AV} (e:tupI (mkTup l)=some m):m=l:=by
 unfold mkTup at e
 cases q:allDat l with
 | none=>rw [q] at e;exact (Option.some.inj e).symm
 | some ds=>rw [q] at e;rw [allDat_eq q];exact (Option.some.inj e).symm
theorem asg_ok (G:GdOK g) {t:MX} (e:asgT fm t v=some fm') (I:In g c fm w H) (r:ItemR g w.k w.s.heap t v x) (P:PoU g c H fm' QU w):Wp g c (assign (untr g.N t) c.env x) QU w:=by
 refine alt_e e (fun e=>ob_e e fun i ei e=>gb_e e fun hs ef=>?_) fun e=>ob_e e fun ts et e=>ob_e e fun m em e=>ob_e e fun us eu ef=>?_
 ·obtain ⟨p,rfl⟩:=asVar_eq ei
  rw [← Option.some.inj ef] at P
  exact wpAny_assign_Name (store_ok G hs I (r.elim id fun h=>nft h.1) P)
 ·obtain ⟨k,p,rfl⟩:=asMTup_eq et
  rw [← Option.some.inj ef] at P
  rcases r with r | ⟨_,l,d,vs,rfl,rfl,hd,hr⟩
  ·exact (tupI_r em r).c fun d vs n hd hr=>asgTup_ok G eu I (sq_tuple (I.R.fr hd)) hr P
  ·exact asgTup_ok G (tupI_mk em ▸ eu) I hd hr P
theorem asg_at (G:GdOK g) {t:MX} {E:Value→Shared→Prop} (e:asgT fm t v=some fm') (I:In g c fm w H) (r:ItemR g w.k w.s.heap t v x) (P:PoU g c H fm' QU w):wpAny (model g.st.prog g.st.w) c.A (assign (untr g.N t) c.env x) QU E w.s :=
 asg_ok (c:={c with E:=E}) G e (I.e E) r fun w1 X I=>P w1 X (I.e c.E)
theorem exs_ok (hx:ExS g o.ex) {body:List MS}:∀ {fm H w},exs o.ex fm body H=some (fl,fm',H')→In g c fm w H→PoS g c H' fl fm' Q w→Wp g c (execs (untrSs g.N body) c.env) Q w:=by
 induction body with
 | nil =>
  exact fun {fm H w} e I P=>by
   refine tr_e e fun e1' e2' e3'=>?_
   subst e1';subst e2';subst e3'
   exact wpAny_execs_nil (P w _ .rfl rfl I)
 | cons s body ih =>
  exact fun {fm H w} e I P=>ob3_e (o:=o.ex fm s H) (f:=fun f fm H=>flr f (exs o.ex fm body H) fun v=>some (.ret v,fm,H)) e fun f fm1 H1 e1 e=>wpAny_execs_cons (hx e1 I fun w1 f' X r I1=>by
   cases f with
   | next=>rw [show f'=.next from r];exact ih e I1 (P.nx X)
   | ret v =>
    obtain ⟨x,rfl,r⟩:=r
    refine tr_e e fun e1' e2' e3'=>?_
    subst e1';subst e2';subst e3'
    exact P w1 _ X ⟨x,rfl,r⟩ I1)
theorem exs_at (hx:ExS g o.ex) {body:List MS} {E:Value→Shared→Prop} (e:exs o.ex fm body H=some (fl,fm',H')) (I:In g c fm w H) (P:PoS g c H' fl fm' Q w):wpAny (model g.st.prog g.st.w) c.A (execs (untrSs g.N body) c.env) Q E w.s :=
 exs_ok (c:={c with E:=E}) hx e (I.e E) fun w1 f X r I=>P w1 f X r (I.e c.E)
theorem CdS.at_ {cd:Fm→MX→Hp→Option (Bool×Hp)} (hc:CdS g cd) {α:Type} {R:α} {f:Bool→Hp→Option α} {E:Value→Shared→Prop} (e:ob2 (cd fm y H) f=some R) (I:In g c fm w H) {Q:Bool→Shared→Prop} (k:∀ b H1,f b H1=some R→∀ w1,Ex (Own g c) w w1→In g c fm w1 H1→Q b w1.s) :
  wpAny (model g.st.prog g.st.w) c.A (isTrue (untr g.N y) c.env (eval (untr g.N y) c.env)) Q E w.s:=CdS.ob (c:={c with E:=E}) hc e (I.e E) fun b H1 q w1 X I=>k b H1 q w1 X (I.e c.E)
theorem while_ok (hc:CdS g o.cd) (hx:ExS g o.ex) {s:MX} {body:List MS} (e:whlIt (fun fm H=>o.cd fm s H) (fun fm H=>exs o.ex fm body H) n fm H=some (fl,fm',H')) (I:In g c fm w H) (P:PoS g c H' fl fm' Q w):Wp g c (exec (untrS g.N (.whl s body p)) c.env) Q w:=by
 refine wpAny_While ?_
 refine codeAny_whileLoop (I:=fun k s'=>∃ w1 fm1 H1,s'=w1.s∧whlIt (fun fm H=>o.cd fm s H) (fun fm H=>exs o.ex fm body H) k fm1 H1=some (fl,fm',H')∧Ex (Own g c) w w1∧In g c fm1 w1 H1) ?_ n ⟨w,fm,H,rfl,e,.rfl,I⟩
 rintro k s' ⟨w1,fm1,H1,rfl,e,X,I⟩
 cases k with
 | zero=>exact nos e
 | succ k =>
  refine hc.at_ (f:=fun b H=>cond b (ob3 (exs o.ex fm1 body H) fun f fm H=>flr f (whlIt (fun fm H=>o.cd fm s H) (fun fm H=>exs o.ex fm body H) k fm H) fun v=>some (.ret v,fm,H)) (some (.next,fm1,H))) e I fun b H2 e w2 X2 I2=>?_
  have Y:=X.trans X2
  cases b with
  | true =>
   exact ob3_e (o:=exs o.ex fm1 body H2) (f:=fun f fm H=>flr f (whlIt (fun fm H=>o.cd fm s H) (fun fm H=>exs o.ex fm body H) k fm H) fun v=>some (.ret v,fm,H)) e fun f fm2 H3 e3 e=>exs_at hx e3 I2 fun w3 f' X3 r I3=>by
    cases f with
    | next=>rw [show f'=.next from r];exact ⟨k,Nat.lt_succ_self _,w3,fm2,H3,rfl,e,Y.trans X3,I3⟩
    | ret v =>
     obtain ⟨x,rfl,r⟩:=r
     refine tr_e e fun e1' e2' e3'=>?_
     subst e1';subst e2';subst e3'
     exact P w3 _ (Y.trans X3) ⟨x,rfl,r⟩ I3
  | false =>
   refine tr_e e fun e1' e2' e3'=>?_
   subst e1';subst e2';subst e3'
   exact wpAny_execs_nil (P w2 _ Y rfl I2)
noncomputable def IterOK (g:Gd) (c:Cx) (t:MX) (X:Addr→Prop) (w:Wo) (vs:List AV) (J:Addr):Prop:=∃ (fp wr:List Addr) (P Md:Nat→Value→Heap→Prop) (St:Nat→Heap→Prop),KTurns g.st.prog g.st.w c.A (untr g.N t) J fp wr vs.length P Md St∧St 0 w.s.heap∧(∀ b∈fp,X b∨∃ o,w.k.f b=some o)∧(∀ b∈wr,X b) ∧
 (∀ b,X b→Free w b∧∃ o,w.h b=some o)∧(∀ i h,St i h→∀ b,X b→h.get? b≠none)∧(∀ i (s:Shared) (Q:Value→Shared→Prop) (E:Value→Shared→Prop),St i s.heap→Q (.ref J) s→wpAny (model g.st.prog g.st.w) c.A (pyIter (.ref J)) Q E s) ∧
 ∀ i v k' h a,KLe w.k k'→P i v h→vs[i]?=some a→ItemR g k' h t a v
noncomputable def PoI (g:Gd) (c:Cx) (fm:Fm) (H:Hp) (t:MX) (vs:List AV) (K:Value→Shared→Prop) (w:Wo):Prop:=∀ w1 J X,Ex (Own g c) w w1→In g c fm w1 H→(∀ b,X b→w.h b=none)→IterOK g c t X w1 vs J→K (.ref J) w1.s
noncomputable def ItemsS (g:Gd) (o:Ops):Prop:=∀ {c fm t it H vs H' w K},items g.st.I o fm t it H=some (vs,H')→In g c fm w H→PoI g c fm H' t vs K w→Wp g c (eval (untr g.N it) c.env) (fun xv s₁=>wpAny (model g.st.prog g.st.w) c.A (pyIter xv) K c.E s₁) w
theorem fold_untr (N:Nat→Str) (env:Env) (x:MX):∀ v:Value,foldedSetIterable (untr N x) env v=pure v:=by
 induction x using MX.rec (motive_2:=fun _=>True) (motive_3:=fun _=>True) <;> first | trivial | exact fun _=>rfl | assumption
theorem drop_r {α:Type} {vs:List α} {i:Nat} {P:Prop} (hi:i≤vs.length) (k1:i=vs.length→vs.drop i=[]→P) (k2:∀ a,vs[i]?=some a→vs.drop i=a::vs.drop (i+1)→P):P:=by
 rcases Nat.lt_or_eq_of_le hi with h | h
 ·exact k2 vs[i] (List.getElem?_eq_getElem h) (List.drop_eq_getElem_cons h)
 ·exact k1 h (h ▸ List.drop_length)
theorem for_ok (G:GdOK g) (hit:ItemsS g o) (hx:ExS g o.ex) {t it:MX} {body:List MS} (q:ob2 (items g.st.I o fm t it H) (fun vs H=>forIt (fun fm H=>exs o.ex fm body H) t vs fm H)=some (fl,fm',H')) (I:In g c fm w H) (P:PoS g c H' fl fm' Q w):Wp g c (exec (untrS g.N (.fors t it body p)) c.env) Q w:=ob2_e q fun vs H1 e1 e2=>by
 refine wpAny_For (hit e1 I fun w1 J X X1 I1 hX hI=>?_) (fold_untr g.N c.env it)
 obtain ⟨fp,wr,Pt,Md,St,W,hSt,hfp,hwr,hXe,hSx,_,hitem⟩:=hI
 have nX:∀ {b},X b→NotFr g c b:=fun h=>I.nw (hX _ h)
 have nO:∀ {b},X b→¬ Own g c b:=fun h=>I.no (hX _ h)
 refine codeAny_forLoop_any (I:=fun k s'=>∃ i w2 fmk Hk,s'=w2.s∧k=vs.length+1 - i∧i≤vs.length∧forIt (fun fm H=>exs o.ex fm body H) t (vs.drop i) fmk Hk=some (fl,fm',H')∧Ex (fun b=>Own g c b∨X b) w1 w2∧In g c fmk w2 Hk∧St i w2.s.heap) ?_ (vs.length+1) ⟨0,w1,fm,H1,rfl,rfl,Nat.zero_le _,e2,.rfl,I1,hSt⟩
 rintro k s' ⟨i,w2,fmk,Hk,rfl,rfl,hi,ef,X2,I2,st⟩
 have X02:=X1.own X2 hX
 have F2:∀ {b},X b→Free w2 b:=fun {b} h=>(hXe b h).2.elim fun o e=>X2.free e (hXe b h).1
 refine drop_r hi (fun e0 ed=>?_) fun a ea ed=>?_
 ·rw [ed] at ef
  rw [e0] at st
  refine tr_e ef fun e1' e2' e3'=>?_
  subst e1';subst e2';subst e3'
  refine W.done _ _ _ st fun h' tk hk=>wpAny_execs_nil ?_
  have K:∀ b o,¬ X b→w2.h b=some o→h'.get? b=some o:=fun b o n e=>hk b o (fun z=>n (hwr b z)) e
  exact P ⟨w2.k,_⟩ _ (X02.fin (tk:=tk) K hX) rfl (I2.kp (tk:=tk) K nX F2)
 ·rw [ed] at ef
  refine ob_e (o:=asgT fmk t a) (f:=fun fm=>ob3 (exs o.ex fm body Hk) fun f fm H=>flr f (forIt (fun fm H=>exs o.ex fm body H) t (vs.drop (i+1)) fm H) fun r=>some (.ret r,fm,H)) ef fun fm1 et ef=>ob3_e ef fun f fm2 H2 eb ef=>?_
  have hlt:=lt_of_get ea
  refine W.item i _ _ _ hlt st fun v h3 tk3 hM hk3=>W.go i v _ _ _ hM fun h4 hP st4 hk4=>?_
  have K:∀ b o,¬ X b→w2.h b=some o→h4.get? b=some o:=fun b o n e=>hk4 b o (fun z=>n (hwr b z)) (hk3 b o (fun z=>n (hwr b z)) e)
  have I4:In g c fmk ⟨w2.k,{w2.s with heap:=h4,toks:=tk3}⟩ Hk:=I2.kp K nX F2
  have X4:Ex (fun b=>Own g c b∨X b) w2 ⟨w2.k,{w2.s with heap:=h4,toks:=tk3}⟩:=⟨rfl,fun {b} e=>nn_none fun ⟨_,z⟩=>(Classical.em (X b)).elim (fun q=>hSx _ _ st4 b q e) fun q=>nos (e.symm.trans (K b _ q z)),fun _ n e=>K _ _ (fun z=>n (.inr z)) e,.rfl,.inl,.inl⟩
  have F4:∀ {b},X b→Free ⟨w2.k,{w2.s with heap:=h4,toks:=tk3}⟩ b:=F2
  have E4:∀ {b},X b→∃ o,h4.get? b=some o:=fun h=>nn_of (hSx _ _ st4 _ h)
  refine asg_at G et I4 (hitem i v w2.k h4 a X2.u hP ea) fun w5 X5 I5=>exs_at hx eb I5 fun w6 f' X6 r I6=>?_
  have X46:=X5.trans X6
  cases f with
  | next =>
   rw [show f'=.next from r]
   refine ⟨vs.length+1 - (i+1),by omega,i+1,w6,fm2,H2,rfl,rfl,hlt,ef,(X2.trans X4).trans (X46.wk' fun _ z=>.inl z),I6,W.frame _ _ _ st4 fun b hb o e=>?_⟩
   rcases hfp b hb with z | ⟨o',z⟩
   ·exact X46.keep (F4 z).2 (nO z) e
   ·exact (I6.R.fr (X46.u.f (X2.u.f z))).trans ((I4.R.fr (X2.u.f z)).symm.trans e)
  | ret v =>
   obtain ⟨x,rfl,r⟩:=r
   refine tr_e ef fun e1' e2' e3'=>?_
   subst e1';subst e2';subst e3'
   exact P w6 _ (X1.own (X:=X) ((X2.trans X4).trans (X46.wk' fun _ z=>.inl z)) hX) ⟨x,rfl,r⟩ I6
end
end
section
noncomputable def ledger (h:Heap) (n:Addr→Bool):List (Addr×Obj):=(List.range h.objs.size).filterMap fun b=>if n b=true then (h.get? b).map fun o=>(b,o) else none
theorem mem_ledger {h:Heap} {n:Addr→Bool} {b:Addr} {o:Obj}:(b,o)∈ledger h n↔n b=true∧h.get? b=some o:=by
 unfold ledger
 rw [List.mem_filterMap]
 constructor
 ·rintro ⟨c,hc,e⟩
  by_cases q:n c=true
  ·rw [if_pos q] at e
   obtain ⟨o',z,e⟩:=Option.map_eq_some_iff.mp e
   injection e with e1 e2
   subst e1;subst e2;exact ⟨q,z⟩
  ·rw [if_neg q] at e;exact nos e
 ·rintro ⟨q,e⟩
  exact ⟨b,List.mem_range.mpr (Heap.lt_size e),by rw [if_pos q,e];rfl⟩
noncomputable def noHeap:Heap:={}
theorem noHeap_get (a:Addr):noHeap.get? a=none:=nn_none fun ⟨_,e⟩=>absurd (Heap.lt_size e) (Nat.not_lt_zero _)
theorem Ns.uniq {h:Heap} {L:Addr} {m m':Str→Option Value} (x:h.Ns L m) (y:h.Ns L m'):m=m':=by
 obtain ⟨o,es,ep,e,d,_,f⟩:=x
 obtain ⟨o',es',ep',e',d',_,f'⟩:=y
 rw [e] at e'
 have z:=Option.some.inj e'
 subst z
 rw [d] at d'
 injection d' with d1 d2
 subst d1
 funext n
 rw [← f,f']
theorem ledger_fr {h:Heap} {L:Addr} {m:Str→Option Value} (n:h.Ns L m):Fr noHeap L h m:=⟨n,fun b o e=>nos ((noHeap_get b).symm.trans e),Nat.zero_le _⟩
noncomputable abbrev led2 (h:Heap) (L c:Addr):List (Addr×Obj):=ledger h fun b=>b != L&&b != c
theorem led2_mem {h:Heap} {L c b:Addr} {o:Obj}:(b,o)∈led2 h L c↔(b≠L∧b≠c)∧h.get? b=some o:=mem_ledger.trans (and_congr_left' (by simp))
theorem led2_news {h:Heap} {L c:Addr} {o:Obj} (ec:h.get? c=some o) (hc:c≠L):News noHeap L h ((c,o)::led2 h L c):=fun p hp=>by
 rcases List.mem_cons.mp hp with rfl | hp
 ·exact ⟨ec,hc,noHeap_get _⟩
 ·obtain ⟨q,e⟩:=led2_mem.mp hp
  exact ⟨e,q.1,noHeap_get _⟩
theorem led2_keep {h h':Heap} {L c:Addr} {o:Obj} (N:News noHeap L h' ((c,o)::led2 h L c)):h'.get? c=some o∧∀ b x,b≠L→b≠c→h.get? b=some x→h'.get? b=some x :=
 ⟨(N _ (.head _)).1,fun b x n1 n2 e=>(N (b,x) (.tail _ (led2_mem.mpr ⟨⟨n1,n2⟩,e⟩))).1⟩
section
variable {g:Gd} {c:Cx} {fm fm':Fm} {w w1:Wo} {H H' H1 H2:Hp} {a b v:AV} {l:List AV} {x xa xb:Value} {y:MX} {vs:List Value} {tk p:Nat} {Q:Flow→Shared→Prop} {QU:Unit→Shared→Prop} {r:Res} {o:Ops} {n i:Nat} {fl:Fl}
theorem ns_put (G:GdOK g) {k:Kn} {hs:Int} {t:Tok} (r:VR g k a x) {fs:List (Nat×AV)}:∀ {es:List DictEntry},LR (nsE g k) fs es→LR (nsE g k) (putN fs i a) (putL (g.N i) hs (.str (g.N i) t) x es)∧(putL (g.N i) hs (.str (g.N i) t) x es).length≤es.length+1:=by
 induction fs with
 | nil=>exact fun q=>q.n ⟨.one ⟨⟨t,rfl⟩,r⟩,Nat.le_refl _⟩
 | cons f fs ih =>
  refine fun q=>q.c fun e es h q=>?_
  obtain ⟨⟨u,hk⟩,hr⟩:=h
  show LR _ (cond (Nat.beq f.1 i) ((i,a)::fs) (f::putN fs i a)) (if e.key.isStr (g.N i)=true then ⟨e.hash,e.key,x⟩::es else e::putL _ _ _ _ es)∧(if e.key.isStr (g.N i)=true then ⟨e.hash,e.key,x⟩::es else e::putL _ _ _ _ es).length≤_
  rw [show e.key.isStr (g.N i)=Nat.beq f.1 i from hk ▸ isStr_N G]
  cases z:Nat.beq f.1 i with
  | true=>rw [if_pos rfl,← Nat.eq_of_beq_eq_true z];exact ⟨.cons ⟨⟨u,hk⟩,r⟩ q,Nat.le_succ _⟩
  | false=>rw [if_neg Bool.false_ne_true];exact ⟨.cons ⟨⟨u,hk⟩,hr⟩ (ih q).1,Nat.succ_le_succ (ih q).2⟩
theorem PoU.set {o':AO} {ob:Obj} {d:Addr} {h':Heap} {m:Str→Option Value} (P:PoU g c (H.set n o') fm QU w) (I:In g c fm w H) (e:w.k.φ n=some d) (K:∀ b z,b≠c.env.locals→b≠d→w.h b=some z→h'.get? b=some z) (hm:w.s.heap.Ns c.env.locals m) (hn:h'.Ns c.env.locals m) (eo:h'.get? d=some ob) (r:OO g w.k o' ob):QU () {w.s with heap:=h',toks:=tk}:=by
 have nL:d≠c.env.locals:=fun z=>I.Lf.2 n (z ▸ e)
 have Kf:∀ {b z},Free w b→b≠c.env.locals→w.h b=some z→h'.get? b=some z:=fun F n e'=>K _ _ n (fun z=>F.2 _ (z ▸ e)) e'
 have R:Rep g ⟨w.k,{w.s with heap:=h',toks:=tk}⟩ (H.set n o'):=by
  have hx:=fun b z (n:b≠d) (e':w.h b=some z) (q:b≠c.env.locals)=>K b z q n e'
  refine ⟨fun {j o1} ej=>?_,fun e=>by rw [List.length_set];exact I.R.dom e,I.R.inj,I.R.dj,fun {b z} e'=>hx b z (fun q=>nos ((I.R.dj e).symm.trans (q ▸ e'))) (I.R.fr e') (fun q=>nos (I.Lf.1.symm.trans (q ▸ e'))),I.R.G0,I.R.base⟩
  by_cases q:n=j
  ·subst q
   rw [List.getElem?_set_self (I.R.dom e)] at ej
   exact ⟨d,ob,e,eo,Option.some.inj ej ▸ r⟩
  ·rw [List.getElem?_set_ne q] at ej
   obtain ⟨b,ob',e1,e2,r'⟩:=I.R.obj ej
   exact ⟨b,ob',e1,hx b ob' (fun z=>q (I.R.inj e (z ▸ e1))) e2 (fun z=>I.Lf.2 _ (z ▸ e1)),r'⟩
 refine P ⟨w.k,_⟩ ⟨rfl,fun {b} e'=>nn_none fun ⟨z,q⟩=>?_,fun {b z} n1 n2 e'=>K b z (fun q=>n2 (.inl q)) (fun q=>n1 n (q ▸ e)) e',.rfl,.inl,.inl⟩ ⟨I.hs,I.st,R,I.Lf,fun h1 h2=>?_,?_,fun h1 h2=>?_⟩
 ·by_cases z1:b=c.env.locals
  ·obtain ⟨_,z2⟩:=Ns.get hn;rw [z1] at e';exact nos (e'.symm.trans z2)
  ·by_cases z2:b=d
   ·rw [z2] at e';exact nos (e'.symm.trans eo)
   ·exact nos (e'.symm.trans (K b z z1 z2 q))
 ·obtain ⟨q1,q2,o,z,e1,e2⟩:=I.cf h1 h2
  exact ⟨q1,q2,o,z,Kf q2 q1 e1,e2⟩
 ·obtain ⟨m',hm',h1⟩:=I.loc
  exact ⟨m',Ns.uniq hm hm' ▸ hn,h1⟩
 ·obtain ⟨b,o,z,q,e1,e2,r'⟩:=I.cel h1 h2
  exact ⟨b,o,z,q,Kf (I.cf h2 q).2.1 (I.cf h2 q).1 e1,e2,r'⟩
theorem setAttr_ok (G:GdOK g) {k nm:Nat} {d dx:Addr} {fs:List (Nat×AV)} (ha:hasAttr g.C k nm=true) (hx:w.k.f d=some (instObj (g.st.clA k) dx)) (ed:w.k.φ n=some dx) (eh:H[n]?=some (.ns fs)) (hl:fs.length≤100) (I:In g c fm w H) (r:VR g w.k v x) (P:PoU g c (H.set n (.ns (putN fs nm v))) fm QU w):Wp g c (setAttr (.ref d) (g.N nm) x) QU w:=by
 obtain ⟨h1,h2,⟨a,h3,h4⟩,h5,h6,h7⟩:=G.att ha
 refine I.R.get eh ed fun ob hd h=>?_
 obtain ⟨es,m,rfl,hr⟩:=h
 have ia:InstAt w.s.heap d (instObj (g.st.clA k) dx) (g.st.clA k) (some (PySem.W.dictOf es m)):=⟨I.R.fr hx,rfl,rfl,hd⟩
 obtain ⟨mm,hm,_⟩:=I.loc
 have nL:dx≠c.env.locals:=fun z=>I.Lf.2 n (z ▸ ed)
 obtain ⟨z,hz,_⟩:=ns_find G hr nm
 have put:=ns_put G (hs:=PyData.keyHash g.st.w.params (g.N nm)) (t:=w.s.toks+1) (i:=nm) r hr
 refine set_plain (kIn G I) ia h5 (osa_dict (s:={w.s with toks:=w.s.toks+1}) (pre:=[]) (post:=led2 w.s.heap c.env.locals dx) (ledger_fr hm) (led2_news hd nL) (kIn G I) ia rfl h6 h7 h2 (by show (getL (g.N nm) es).isSome=true;rw [hz];rfl) (by simp) (fun q hq=>?_) (by rw [putName_dict]) rfl ?_ fun h' F' N'=>?_)
 ·exact (led2_mem.mp (show (q.1,q.2)∈_ from hq)).1.2
 ·exact Nat.le_trans put.2 (Nat.le_trans (Nat.succ_le_succ (by rw [hr.len];exact hl)) (by decide))
 ·obtain ⟨e1,K⟩:=led2_keep N'
  exact P.set I ed K hm F'.ns e1 ⟨_,_,rfl,put.1⟩
theorem swaps_other {value:Expr} {t:Expr} {line:Nat} {env:Env} (ht:∀ id p,t≠.Name id p):swapsWith value (some t) line env=pure false:=by
 unfold swapsWith
 split
 ·split <;> first | rfl | (rename_i h;cases h;done) | skip
  all_goals (rename_i h;first | (injection h with h;exact absurd h (ht _ _)) | skip)
 ·rfl
theorem asAttr_eq {t:MX} {q:MX×Nat} (e:asAttr t=some q):∃ p,t=.attr q.1 q.2 p:=by
 cases t with
 | attr j k p=>exact ⟨p,congrArg (fun q:MX×Nat=>MX.attr q.1 q.2 p) (Option.some.inj e)⟩
 | _=>exact nos e
theorem asSub_eq {t:MX} {q:MX×MX} (e:asSub t=some q):∃ p,t=.sub q.1 q.2 p:=by
 cases t with
 | sub j k p=>exact ⟨p,congrArg (fun q:MX×MX=>MX.sub q.1 q.2 p) (Option.some.inj e)⟩
 | _=>exact nos e
theorem asg_attr (G:GdOK g) (he:EvS g o.ev) {s e:MX} {nm ap:Nat} (q:ob2 (o.ev fm e H) (fun v H=>ob2 (o.ev fm s H) fun a H=>setA g.C fm v H a nm)=some (fl,fm',H')) (I:In g c fm w H) (P:PoS g c H' fl fm' Q w):Wp g c (exec (untrS g.N (.asg (.attr s nm ap) e p)) c.env) Q w :=
 plainObj_wpAny_Assign_Attribute (he.ob q I fun v H1 q w1 xv X I1 rv=>he.ob (f:=fun a H=>setA g.C fm v H a nm) q I1 fun a H2 q w2 xa Y I2 ra=>ob2_e q fun k n ei q=>gb_e q fun ha q=>ob_e q fun fs en q=>gb_e q fun hl q=>tr_e q fun e1 e2 e3=>by
  subst e1;subst e2;subst e3
  rw [instV_eq ei] at ra
  obtain ⟨d,dx,rfl,ed,eo⟩:=ra
  exact setAttr_ok G ha eo ed (nO_eq en) (Nat.le_of_ble_eq_true hl) I2 (rv.up Y.u) fun w3 Z I3=>P w3 _ ((X.trans Y).trans Z) rfl I3) (swaps_other fun _ _ h=>by cases h)
theorem asg_sub (G:GdOK g) (he:EvS g o.ev) {s t e:MX} {ap:Nat} (q:ob2 (o.ev fm e H) (fun v H=>ob2 (o.ev fm s H) fun a H=>ob2 (o.ev fm t H) fun k H=>setI fm v H a k)=some (fl,fm',H')) (I:In g c fm w H) (P:PoS g c H' fl fm' Q w):Wp g c (exec (untrS g.N (.asg (.sub s t ap) e p)) c.env) Q w :=
 wpAny_Assign_Subscript (he.ob q I fun v H1 q w1 xv X I1 rv=>he.ob (f:=fun a H=>ob2 (o.ev fm t H) fun k H=>setI fm v H a k) q I1 fun a H2 q w2 xa Y I2 ra=>he.ob (f:=fun k H=>setI fm v H a k) q I2 fun k H3 q w3 xk Z I3 rk=>ob_e q fun n en q=>by
  have X3:=(X.trans Y).trans Z
  rw [locV_eq en] at ra
  obtain ⟨d,ed,rfl⟩:=ra.up Z.u
  have rv:=(rv.up Y.u).up Z.u
  obtain ⟨m,hm,_⟩:=I3.loc
  have nL:c.env.locals≠d:=fun z=>I3.Lf.2 n (z ▸ ed)
  refine alt_e q (fun q=>ob_e q fun j ej q=>ob_e q fun l el q=>gb_e q fun hb q=>and_e hb fun h1 h2=>tr_e q fun e1 e2 e3=>?_) fun q=>ob_e q fun u eu q=>ob_e q fun es ee q=>gb_e q fun hb q=>tr_e q fun e1 e2 e3=>?_
  ·subst e1;subst e2;subst e3
   refine I3.R.get (lO_eq el) ed fun ob hd h=>?_
   obtain ⟨ws,cc,rfl,hr⟩:=h
   obtain ⟨tk,rfl⟩:intR (j:Int) xk:=ob_e ej fun i ei h=>by
    have z:=intV_r ei rk
    cases i with
    | ofNat n=>exact Option.some.inj h ▸ z
    | negSucc n=>exact nos h
   have hlen:=hr.len
   have hj:j < l.length:=Nat.le_of_ble_eq_true h1
   have hz:=Nat.le_of_ble_eq_true h2
   refine ki_setAt hd (by simp) (by omega) (by simp only [List.size_toArray];omega) ?_
   have hs:=Heap.SameBut.update w3.s.heap d (Obj.mapSeq (·.setIfInBounds (Int.toNat (j:Int)) xv))
   have hl':=IsL.update (h:=w3.s.heap) (l:=d) hd (·.setIfInBounds (Int.toNat (j:Int)) xv)
   have hset:ws.toArray.setIfInBounds (Int.toNat (j:Int)) xv=(ws.set j xv).toArray:=by simp
   rw [hset] at hl'
   have z:PoU g c (H3.set n (.list (l.set j v))) fm (fun _ s=>Q .next s) w3:=fun w4 U I4=>P w4 _ (X3.trans U) rfl I4
   exact z.set I3 ed (fun b o _ n2 e=>(hs.2 b n2).trans e) hm (Ns.at_ hm fun o e=>(hs.2 _ nL).trans e) hl' ⟨ws.set j xv,_,rfl,hr.set rv⟩
  ·subst e1;subst e2;subst e3
   have dO_eq:H3[n]?=some (.dict es):=ob_e ee fun q e h=>by
    rw [e];cases q with
    | dict d=>exact congrArg (fun x=>some (AO.dict x)) (Option.some.inj h)
    | _=>exact nos h
   refine I3.R.get dO_eq ed fun ob hd h=>?_
   obtain ⟨ps,hO,hr⟩:=h
   have hdo:=hO _ _ hd
   have nd:(ps.map (·.1)).Nodup:=let ⟨_,_,_,_,_,_,_,_,hn⟩:=hdo;hn
   refine wpAny_setItem_pairs (skey (strV_r eu rk)) hdo (fun h' hm' hs=>?_) (by have:=Nat.le_of_ble_eq_true hb;rw [hr.len,sizeLine_eq];omega)
   obtain ⟨ob',eo',hO'⟩:=dictO_of hm'
   have z:PoU g c (H3.set n (.dict (putS es u v))) fm (fun _ s=>Q .next s) w3:=fun w4 U I4=>P w4 _ (X3.trans U) rfl I4
   exact z.set I3 ed (fun b o _ n2 e=>(hs.2 b n2).trans e) hm (Ns.at_ hm fun o e=>(hs.2 _ nL).trans e) eo' ⟨_,hO',dc_put rv hr nd⟩) (swaps_other fun _ _ h=>by cases h)
end
end
section
section
variable {g:Gd} {c:Cx} {fm fm':Fm} {w w1:Wo} {H H' H1 H2:Hp} {a b v:AV} {l:List AV} {x xa xb:Value} {y:MX} {vs:List Value} {tk p:Nat} {Q:Flow→Shared→Prop} {QU:Unit→Shared→Prop} {r:Res} {o:Ops} {n i:Nat} {fl:Fl} {ts:List MX} {is:List Nat}
theorem nonC0_not (G:GdOK g) (h:nonC0 y=true) (n:Nat):foldedForSure (n+1) (untr g.N y)=false∧constantsAlone (n+1) (untr g.N y)=false:=by
 cases y with
 | mk y=>cases y <;> first | exact nft h | exact ⟨rfl,rfl⟩
 | glob=>exact ⟨rfl,G.dbg _⟩
 | var=>exact ⟨rfl,G.dbg _⟩
 | _=>first | exact nft h | exact ⟨rfl,rfl⟩
theorem nonC_not (G:GdOK g) (h:nonC y=true) (n:Nat):foldedForSure (n+2) (untr g.N y)=false∧constantsAlone (n+2) (untr g.N y)=false:=by
 rcases (Bool.or_eq_true ..).mp h with h | h
 ·exact nonC0_not G h (n+1)
 ·refine optB_e h fun q e h=>?_
  obtain ⟨p,rfl⟩:=asSub_eq e
  refine ⟨rfl,?_⟩
  show (constantsAlone (n+1) (untr g.N q.1)&&constantsAlone (n+1) (untr g.N q.2))=false
  rw [(nonC0_not G h n).2];rfl
theorem any_not (G:GdOK g) (n:Nat) (h:ts.any nonC=true):(untrL g.N ts).all (foldedForSure (n+2))=false∧(untrL g.N ts).all (constantsAlone (n+2))=false:=by
 induction ts with
 | nil=>exact nft h
 | cons y ts ih =>
  show (foldedForSure (n+2) (untr g.N y)&&(untrL g.N ts).all _)=false∧(constantsAlone (n+2) (untr g.N y)&&(untrL g.N ts).all _)=false
  rcases (Bool.or_eq_true ..).mp h with h | h
  ·obtain ⟨a,b⟩:=nonC_not G h n
   rw [a,b];exact ⟨rfl,rfl⟩
  ·rw [(ih h).1,(ih h).2,Bool.and_false,Bool.and_false];exact ⟨rfl,rfl⟩
theorem const_fold (N:Nat→Str) (n:Nat) (h:isConst y=true):foldedForSure n (untr N y)=true:=by
 cases y with
 | const=>cases n <;> rfl
 | mk z=>exact nft h
 | _=>exact nft h
theorem consts_fold (N:Nat→Str) (n:Nat) (h:ts.all isConst=true):(untrL N ts).all (foldedForSure n)=true:=by
 induction ts with
 | nil=>rfl
 | cons y ts ih=>exact and_e h fun h1 h2=>(Bool.and_eq_true ..).mpr ⟨const_fold N n h1,ih h2⟩
theorem fold_all (N:Nat→Str) (n:Nat) (h:ts.all foldC=true):(untrL N ts).all (foldedForSure (n+1))=true:=by
 induction ts with
 | nil=>rfl
 | cons y ts ih =>
  exact and_e h fun h1 h2=>(Bool.and_eq_true ..).mpr ⟨by
   rcases (Bool.or_eq_true ..).mp h1 with h | h
   ·exact const_fold N _ h
   ·refine optB_e h fun q e h=>?_
    obtain ⟨k,p,rfl⟩:=asMTup_eq e
    exact consts_fold N n h,ih h2⟩
theorem no_star (N:Nat→Str) (ts:List MX):((untrL N ts).any fun | .Starred ..=>true | _=>false)=false:=by
 induction ts with
 | nil=>rfl
 | cons y ts ih =>
  show ((match untr N y with | .Starred ..=>true | _=>false)||(untrL N ts).any _)=false
  rw [ih,Bool.or_false]
  induction y using MX.rec (motive_2:=fun _=>True) (motive_3:=fun _=>True) <;> first | trivial | rfl | assumption
theorem names_all {env:Env} {N:Nat→Str} {f:Expr→Option Str} (hf:∀ id p,f (.Name id p)=none∨f (.Name id p)=some id∧env.kindOf id=some .local):∀ {is:List Nat},VarL ts is→((untrL N ts).filterMap f).length≤ts.length∧(((untrL N ts).filterMap f).length=ts.length→(untrL N ts).filterMap f=is.map N):=by
 induction ts with
 | nil=>exact fun h=>h.n ⟨Nat.le_refl _,fun _=>rfl⟩
 | cons t ts ih =>
  refine fun h=>h.c fun i is e h'=>?_
  obtain ⟨p,rfl⟩:=asVar_eq e
  obtain ⟨a,b⟩:=ih h'
  show ((Expr.Name (N i) (pz p)::untrL N ts).filterMap f).length≤_∧(((Expr.Name (N i) (pz p)::untrL N ts).filterMap f).length=_→(Expr.Name (N i) (pz p)::untrL N ts).filterMap f=_)
  rcases hf (N i) (pz p) with q | ⟨q,k⟩
  ·rw [List.filterMap_cons_none q]
   exact ⟨Nat.le_succ_of_le a,fun z=>absurd (z ▸ a) (Nat.not_succ_le_self _)⟩
  ·rw [List.filterMap_cons_some q]
   exact ⟨Nat.succ_le_succ a,fun z=>by rw [b (Nat.succ.inj z)];rfl⟩
theorem untrL_len (N:Nat→Str) (ts:List MX):(untrL N ts).length=ts.length:=(form_untr N (pz 0) {globals:=0,builtins:=0,locals:=0,scope:={kind:=.function,names:=[],isGenerator:=false,isCoroutine:=false,more:=[]},cells:=[]} ts).2.2
theorem swap_cases (G:GdOK g) {env:Env} {k:Nat} {p:Pos} {e:MX} (hv:VarL ts is) (ok:Option.rec (!isMk e) (fun vs=>vs.any nonC||vs.all foldC) (asMTup e)=true) :
  swappedStores [.Tuple (untrL g.N ts) k p] (untr g.N e) env=pure none∨(swappedStores [.Tuple (untrL g.N ts) k p] (untr g.N e) env=pure (some (is.map g.N))∧(ts.length=2∨ts.length=3)):=by
 cases e with
 | mk y=>exact nft ok
 | tup us k' p' =>
  replace ok:(us.any nonC||us.all foldC)=true:=ok
  show swappedStores [.Tuple (untrL g.N ts) k p] (.Tuple (untrL g.N us) k' (pz p')) env=_∨swappedStores [.Tuple (untrL g.N ts) k p] (.Tuple (untrL g.N us) k' (pz p')) env=_∧_
  by_cases hn:swappedStores [.Tuple (untrL g.N ts) k p] (.Tuple (untrL g.N us) k' (pz p')) env=pure none
  ·exact .inl hn
  refine .inr ?_
  generalize hS:swappedStores [.Tuple (untrL g.N ts) k p] (.Tuple (untrL g.N us) k' (pz p')) env=S at hn ⊢
  unfold swappedStores at hS
  simp only at hS
  split at hS
  ·exact absurd hS.symm hn
  rename_i h1
  split at hS
  ·rename_i q
   exact absurd ((no_star g.N us).symm.trans q) Bool.false_ne_true
  split at hS
  ·exact absurd hS.symm hn
  rename_i h2
  rcases (Bool.or_eq_true ..).mp ok with ok | ok
  ·obtain ⟨a,b⟩:=any_not G 6 ok
   rw [a,b] at hS
   simp only [Bool.false_eq_true,if_false] at hS
   simp only [Bool.or_eq_true,not_or,bne_iff_ne,ne_eq,Decidable.not_not,untrL_len] at h2
   refine ⟨?_,?_⟩
   ·rw [← hS,(names_all (env:=env) (N:=g.N) (fun id p=>by
     dsimp only
     split
     ·rename_i q
      rw [Bool.and_eq_true] at q
      exact .inr ⟨rfl,eq_of_beq q.1⟩
     ·exact .inl rfl) hv).2 h2.1]
   ·simp only [untrL_len,Bool.or_eq_true,not_or,Bool.not_eq_true,Bool.not_eq_false',beq_iff_eq] at h1
    exact h1.1.1
  ·rw [fold_all g.N 7 ok] at hS
   simp only [if_true] at hS
   exact absurd hS.symm hn
 | _=>exact .inl rfl
noncomputable def AsgC (g:Gd) (ev:EvF):Prop:=∀ {c fm e H v H' i tp p w Q},ev fm e H=some (v,H')→stores fm.sc i=true→swapsWith (untr g.N e) (some (.Name (g.N i) (pz tp))) (pz p).line c.env=pure true→In g c fm w H→PoS g c H' .next {fm with vars:=putN fm.vars i v} Q w →
 Wp g c (exec (.Assign [.Name (g.N i) (pz tp)] (untr g.N e) (pz p)) c.env) Q w
theorem swaps_name (value:Expr) (id:Str) (p:Pos) (line:Nat) (env:Env):∃ b,swapsWith value (some (.Name id p)) line env=pure b:=by
 unfold swapsWith
 split
 ·exact ⟨_,rfl⟩
 ·exact ⟨_,rfl⟩
theorem asg_name (G:GdOK g) (he:EvS g o.ev) (ha:AsgC g o.ev) {tp:Nat} {e:MX} (e1:o.ev fm e H=some (v,H1)) (hst:stores fm.sc i=true) (I:In g c fm w H) (P:PoS g c H1 .next {fm with vars:=putN fm.vars i v} Q w):Wp g c (exec (untrS g.N (.asg (.var i tp) e p)) c.env) Q w:=by
 obtain ⟨b,hb⟩:=swaps_name (untr g.N e) (g.N i) (pz tp) (pz p).line c.env
 cases b with
 | true=>exact ha e1 hst hb I P
 | false=>exact wpAny_Assign_Name (he e1 I fun w1 xv X I1 r=>store_ok G hst I1 r fun w2 Y I2=>P w2 _ (X.trans Y) rfl I2) hb
theorem memN_iff {l:List Nat}:memN l i=true↔i∈l:=by
 induction l with
 | nil=>exact ⟨nft,fun h=>nomatch h⟩
 | cons j l ih =>
  show cond (Nat.beq j i) true (memN l i)=true↔_
  rw [List.mem_cons]
  by_cases z:j=i
  ·rw [z,Nat.beq_refl];exact ⟨fun _=>.inl rfl,fun _=>rfl⟩
  ·rw [beq_f z];exact ⟨fun h=>.inr (ih.mp h),fun h=>ih.mpr (h.resolve_left fun q=>z q.symm)⟩
theorem distN_nodup {l:List Nat} (h:distN l=true):l.Nodup:=by
 induction l with
 | nil=>exact List.nodup_nil
 | cons j l ih=>exact and_e h fun h1 h2=>List.nodup_cons.mpr ⟨fun q=>by rw [memN_iff.mpr q] at h1;exact nft h1,ih h2⟩
theorem varIds (h:VarL ts is):ts.map varId=is:=by
 induction ts generalizing is with
 | nil=>exact h.n rfl
 | cons t ts ih =>
  refine h.c fun i us e h'=>?_
  obtain ⟨p,rfl⟩:=asVar_eq e
  exact congrArg (List.cons i) (ih h')
theorem LR.eqlen {α β:Type} {P:α→β→Prop} {l:List α} {us:List β} (h:LR P l us):us.length=l.length:=h.len
theorem rev_same {us:List (Nat×AV)} {l:List AV} (hn:is.Nodup) (h:is.length=l.length) (hl:is.length=2∨is.length=3) (j:Nat):lookN (putAll us is.reverse l.reverse) j=lookN (putAll us is l) j:=by
 match is,l,h with
 | [a,b],[x,y],_ =>
  simp only [List.nodup_cons,List.mem_singleton] at hn
  show lookN (putN (putN us b y) a x) j=lookN (putN (putN us a x) b y) j
  rw [lookN_put,lookN_put,lookN_put,lookN_put]
  by_cases h1:j=a
  ·rw [if_pos h1,if_neg (h1 ▸ hn.1),if_pos h1]
  ·rw [if_neg h1,if_neg h1]
 | [a,b,c],[x,y,z],_ =>
  simp only [List.nodup_cons,List.mem_cons,List.mem_singleton,not_or] at hn
  show lookN (putN (putN (putN us c z) b y) a x) j=lookN (putN (putN (putN us a x) b y) c z) j
  rw [lookN_put,lookN_put,lookN_put,lookN_put,lookN_put,lookN_put]
  by_cases h1:j=a
  ·rw [if_pos h1,if_neg (h1 ▸ hn.1.2.1),if_neg (h1 ▸ hn.1.1),if_pos h1]
  ·rw [if_neg h1,if_neg h1]
   by_cases h2:j=b
   ·rw [if_pos h2,if_neg (h2 ▸ hn.2.1.1),if_pos h2]
   ·rw [if_neg h2,if_neg h2]
 | [],[],_=>exact hl.elim (fun h=>absurd h (by decide)) fun h=>absurd h (by decide)
 | [a],[x],_=>exact hl.elim (fun h=>absurd (show 1=2 from h) (by decide)) fun h=>absurd (show 1=3 from h) (by decide)
 | a::b::c::d::r,_,_=>exact hl.elim (fun h=>absurd (Nat.succ.inj (Nat.succ.inj h)) (Nat.succ_ne_zero _)) fun h=>absurd (Nat.succ.inj (Nat.succ.inj (Nat.succ.inj h))) (Nat.succ_ne_zero _)
theorem In.vars (I:In g c fm w H) {us:List (Nat×AV)} (h:∀ j,lookN us j=lookN fm.vars j):In g c {fm with vars:=us} w H :=
 ⟨I.hs,I.st,I.R,I.Lf,I.cf,I.loc.elim fun m q=>⟨m,q.1,fun {i v} e h2=>q.2 ((h i).symm.trans e) h2⟩,fun {i v} e h2=>I.cel ((h i).symm.trans e) h2⟩
theorem asg_tup (G:GdOK g) (he:EvS g o.ev) {kk tp:Nat} {e:MX} (e1:o.ev fm e H=some (v,H1)) (ok:tupOK (.tup ts kk tp) e=true) (e2:asgT fm (.tup ts kk tp) v=some fm') (I:In g c fm w H) (P:PoS g c H1 .next fm' Q w):Wp g c (exec (untrS g.N (.asg (.tup ts kk tp) e p)) c.env) Q w:=and_e ok fun hd ok=>by
 have hsw:swapsWithSole [.Tuple (untrL g.N ts) kk (pz tp)] (untr g.N e) (pz p).line c.env=pure false:=by
  show swapsWith (untr g.N e) (some (.Tuple (untrL g.N ts) kk (pz tp))) (pz p).line c.env=pure false
  exact swaps_other fun _ _ h=>by cases h
 refine alt_e e2 (fun e=>nos e) fun e3=>ob_e (o:=some ts) e3 fun ts' ets e3=>ob_e e3 fun l el e3=>ob_e e3 fun us eu e4=>?_
 have z:=Option.some.inj ets
 subst z
 obtain ⟨is,h1,h2,h3,h4⟩:=asgNames_r eu
 have ef:=Option.some.inj e4
 rcases swap_cases (env:=c.env) (k:=kk) (p:=pz tp) G h1 ok with hw | ⟨hw,hlen⟩
 ·exact Assign_Tuple (he e1 I fun w1 xv X I1 r=>asg_ok G e2 I1 (.inl r) fun w2 Y I2=>P w2 _ (X.trans Y) rfl I2) hsw hw
 ·refine Assign_Tuple_swapped (he e1 I fun w1 xv X I1 r=>?_) hsw hw
  obtain ⟨d,ws,rfl,⟨n,hd'⟩,hr⟩:=tupI_r el r
  rw [show (is.map g.N).length=ws.toArray.size by rw [List.length_map,List.size_toArray,hr.len];exact h2]
  refine wpAny_unpackItems_tuple I.st.hd (sq_tuple (I1.R.fr hd')) fun h' hx=>?_
  have Gr:∀ b o,w1.s.heap.get? b=some o→h'.get? b=some o:=fun b o e=>hx b o (fun z=>by rw [z,size_none] at e;exact nos e) e
  rw [show ((is.map g.N).reverse.map fun n=>bindName c.env n)=is.reverse.map fun i=>bindName c.env (g.N i) by rw [← List.map_reverse,List.map_map];rfl]
  have hT:LR (StoreR g c) is.reverse (is.reverse.map fun i=>bindName c.env (g.N i)):=by
   generalize is.reverse=js
   induction js with
   | nil=>rfl
   | cons j js ih=>exact .cons (fun v A' E' Q s h=>wpAny_bindName h) ih
  refine stores_ok (QU:=fun _ s=>Q .next s) (w:=⟨w1.k,{w1.s with heap:=h',toks:=w1.s.toks}⟩) (xs:=l.reverse) G hT (by rw [List.length_reverse,List.length_reverse];exact h2) (fun i q=>h3 i (List.mem_reverse.mp q)) (I1.gr Gr) ?_ fun w2 Y I2=>?_
  ·rw [show ws.toArray.toList=ws from rfl];exact hr.rev
  ·have nd:is.Nodup:=by
    have:=distN_nodup hd
    rwa [varIds h1] at this
   rw [← ef,h4] at P
   refine P w2 _ ((X.trans (Ex.gr (tk:=w1.s.toks) Gr).wk).trans Y) rfl (I2.vars (us:=putAll fm.vars is l) fun j=>(rev_same nd h2 (by rw [h1.len];exact hlen) j).symm)
theorem notComp_swaps (h:notComp y=true) (line:Nat) (env:Env):swapsWith (untr g.N y) none line env=pure false:=by
 cases y with
 | comp=>exact nft h
 | mk y=>cases y <;> first | exact nft h | rfl
 | _=>rfl
theorem interactive_fn (I:In g c fm w H):interactive c.env=false:=by
 unfold interactive
 rw [I.st.kind];rfl
theorem ex_ok (G:GdOK g) (he:EvS g o.ev) (hc:CdS g o.cd) (hx:ExS g o.ex) (hit:ItemsS g o) (ha:AsgC g o.ev):ExS g (exStep g.st.I g.C o):=fun {c fm st H fl fm' H' w Q} q I P=>by
 cases st with
 | asg t e p =>
  cases et:asAttr t with
  | some u =>
   obtain ⟨ap,rfl⟩:=asAttr_eq et
   exact asg_attr G he q I P
  | none=>cases es:asSub t with
   | some u =>
    obtain ⟨ap,rfl⟩:=asSub_eq es
    exact asg_sub G he q I P
   | none =>
    replace q:ob2 (o.ev fm e H) (fun v H=>Option.rec (Option.rec (gb (tupOK t e) (ob (asgT fm t v) fun fm=>some (.next,fm,H))) (fun p=>ob2 (o.ev fm p.1 H) fun a H=>ob2 (o.ev fm p.2 H) fun k H=>setI fm v H a k) (asSub t)) (fun p=>ob2 (o.ev fm p.1 H) fun a H=>setA g.C fm v H a p.2) (asAttr t))=some (fl,fm',H'):=q
    rw [et,es] at q
    exact ob2_e q fun v H1 e1 q=>gb_e q fun ht q=>ob_e q fun fm1 e2 q=>tr_e q fun e1' e2' e3'=>by
     subst e1';subst e2';subst e3'
     refine alt_e e2 (fun e=>ob_e e fun i ei e=>gb_e e fun hs e4=>?_) fun e=>ob_e e fun ts et e=>?_
     ·obtain ⟨tp,rfl⟩:=asVar_eq ei
      rw [← Option.some.inj e4] at P
      exact asg_name G he ha e1 hs I P
     ·obtain ⟨k,tp,rfl⟩:=asMTup_eq et
      exact asg_tup G he e1 ht e2 I P
 | ifs t a b p =>
  replace q:ob2 (o.cd fm t H) (fun t H=>exs o.ex fm (cond t a b) H)=some (fl,fm',H'):=q
  exact wpAny_If (hc.ob q I fun t H1 q w1 X I1=>by cases t <;> exact exs_ok hx q I1 (P.nx X))
 | fors t it body p=>exact for_ok G hit hx q I P
 | whl t body p=>exact while_ok (n:=5000) hc hx q I P
 | ret e p =>
  replace q:ob2 (o.ev fm e H) (fun v H=>some (.ret v,fm,H))=some (fl,fm',H'):=q
  exact wpAny_Return_some (he.ob q I fun v H1 q w1 x X I1 r=>tr_e q fun e1 e2 e3=>by
   subst e1;subst e2;subst e3;exact P w1 _ X ⟨x,rfl,r⟩ I1)
 | exp e p =>
  replace q:gb (notComp e) (ob2 (o.ev fm e H) fun _ H=>some (.next,fm,H))=some (fl,fm',H'):=q
  exact gb_e q fun hn q=>wpAny_Expr_any (he.ob q I fun v H1 q w1 x X I1 r=>tr_e q fun e1 e2 e3=>by
   subst e1;subst e2;subst e3;exact P w1 _ X rfl I1) (interactive_fn I) (notComp_swaps hn _ _)
 | rais e p=>exact nos q
 | pass p =>
  exact tr_e q fun e1 e2 e3=>by
   subst e1;subst e2;subst e3;exact wpAny_Pass (P w _ .rfl rfl I)
end
end
section
section
variable {prog:Program} {w:World} {A:Around} {E:Value→Shared→Prop} {s:Shared}
theorem nextOf_tup_end {it t:Addr} {Q:Value→Shared→Prop} (hh:A.handled=none) (hit:s.heap.IsTupleIter it t 0) (ht:s.heap.IsTuple t #[])
  (hE:∀ h' e,Heap.ExtBut it s.heap h'→(∃ o,h'.get? e=some o∧o.cls=.type "StopIteration")→E (.ref e) {s with heap:=h'}):wpAny (model prog w) A (Builtin.SmallTypes.nextOf (.ref it)) Q E s:=by
 obtain ⟨o,ho,hc,hd⟩:=id hit
 obtain ⟨ol,hol,_,nl,hdl⟩:=ht
 unfold Builtin.SmallTypes.nextOf
 refine wpAny_bind (wpAny_callSpecial?_slot (name:=Str.ofString "__next__") hit.typeIs F.slot_tuple_iterator_next
  (wpAny_call_entry F.slot_tuple_iterator_next hit.typeIs F.entry_tuple_iterator_next ?_ (F.args_tuple_iterator_next_1 _)))
 show wpAny _ _ (field (.ref it) 0 >>= _) _ _ s
 refine wpAny_bind (wpAny_field ho hd (x:=.ref t) rfl ?_)
 show wpAny _ _ (if (Value.ref t==Value.none)=true then _ else _) _ _ s
 rw [if_neg (show ¬ ((Value.ref t==Value.none)=true) from Bool.false_ne_true)]
 show wpAny _ _ (field (.ref it) 1 >>= _) _ _ s
 refine wpAny_bind (wpAny_field ho hd (x:=.int (0:Nat) 0) rfl ?_)
 show wpAny _ _ (seqItems? (.ref t) >>= _) _ _ s
 refine wpAny_bind (wpAny_seqItems hol hdl ?_)
 have hx:(#[]:Array Value)[0]?=none:=rfl
 simp only [Int.toNat_natCast,hx]
 refine wpAny_bind (wpAny_rule (wpAny_bind (wpAny_setField ho hd (by simp) ?_)))
 show wpAny _ _ (newExc (.type "StopIteration") [] >>= _) _ _ _
 refine wpAny_bind ?_
 simp only [newExc,newTuple]
 refine wpAny_bind (wpAny_newObj_type ?_ (by size_fits))
 refine wpAny_bind (m:=firstArgMember _ _) (wpAny_of_eq (a:=Value.none) (by first | rfl | (simp only [firstArgMember];rfl)) ?_)
 refine wpAny_newObj_type ?_ (by size_fits)
 simp only [raiseNew]
 refine wpAny_bind (wpAny_handled ?_)
 first | rw [show A.in1.handled=none from hh] | rw [hh]
 refine wpAny_bind (wpAny_pure (wpAny_throw ?_))
 exact hE _ _ (((Heap.SameBut.update ..).extBut.push _).push _) ⟨_,Heap.get?_push_size _ rfl,rfl⟩
noncomputable abbrev zH1 (h:Heap) (T:String) (l1:Addr):Heap:=h.push {cls:=.type T,data:=.fields #[.ref l1,.int 0 0]}
noncomputable abbrev zH2 (h:Heap) (T:String) (l1 l2:Addr):Heap:=(zH1 h T l1).push {cls:=.type "tuple_iterator",data:=.fields #[.ref l2,.int 0 0]}
noncomputable abbrev zH3 (h:Heap) (T:String) (l1 l2:Addr):Heap:=(zH2 h T l1 l2).push {cls:=.type "tuple",data:=.seq #[.ref h.objs.size,.ref (zH1 h T l1).objs.size]}
noncomputable abbrev zH4 (h:Heap) (T:String) (l1 l2:Addr):Heap:=(zH3 h T l1 l2).push {cls:=.type "tuple",data:=.seq #[.none,.none]}
noncomputable abbrev zH5 (h:Heap) (T:String) (l1 l2:Addr):Heap:=(zH4 h T l1 l2).push {cls:=.type "zip",data:=.fields #[.none,.bool false,.bool false,.ref (zH2 h T l1 l2).objs.size,.ref (zH3 h T l1 l2).objs.size]}
theorem zip_new_tt (l1 l2:Addr) (ys:Array Value) :
  Meets (Builtin.«zip.__new__» ⟨[.type "zip",.ref l1,.ref l2],[]⟩) (fun _ R s=>s.heap.IsTuple l1 #[]∧s.heap.IsTuple l2 ys ∧
   R (.ok (.ret (.ref (zH4 s.heap "tuple_iterator" l1 l2).objs.size))) {s with heap:=zH5 s.heap "tuple_iterator" l1 l2}) :=
 .of_wp fun prog w A R s h=>by
  obtain ⟨hp,g,d,tk,os⟩:=s;obtain ⟨hl1,hl2,h⟩:=h
  have hsub:=sub_zip
  have hL1:Heap.IsTuple (Shared.heap ⟨hp,g,d,tk,os⟩) l1 #[]:=hl1
  have hL2:Heap.IsTuple (Shared.heap ⟨hp.push {cls:=.type "tuple_iterator",data:=.fields #[.ref l1,.int 0 0]},g,d,tk,os⟩) l2 ys:=Heap.IsTuple.push hl2 _
  wp_walk using wpAny_pyIter_tuple hL1,wpAny_pyIter_tuple hL2
  exact ⟨_,rfl,h⟩
theorem zip_new_lt (l1 l2:Addr) (ys:Array Value) :
  Meets (Builtin.«zip.__new__» ⟨[.type "zip",.ref l1,.ref l2],[]⟩) (fun _ R s=>s.heap.IsList l1 #[]∧s.heap.IsTuple l2 ys ∧
   R (.ok (.ret (.ref (zH4 s.heap "list_iterator" l1 l2).objs.size))) {s with heap:=zH5 s.heap "list_iterator" l1 l2}) :=
 .of_wp fun prog w A R s h=>by
  obtain ⟨hp,g,d,tk,os⟩:=s;obtain ⟨hl1,hl2,h⟩:=h
  have hsub:=sub_zip
  have hL1:Heap.IsList (Shared.heap ⟨hp,g,d,tk,os⟩) l1 #[]:=hl1
  have hL2:Heap.IsTuple (Shared.heap ⟨hp.push {cls:=.type "list_iterator",data:=.fields #[.ref l1,.int 0 0]},g,d,tk,os⟩) l2 ys:=Heap.IsTuple.push hl2 _
  wp_walk using wpAny_pyIter_list hL1,wpAny_pyIter_tuple hL2
  exact ⟨_,rfl,h⟩
theorem zip_parts (h:Heap) (T:String) (l1 l2:Addr):(zH4 h T l1 l2).objs.size=h.objs.size+4∧IsZip (zH5 h T l1 l2) (h.objs.size+4) (h.objs.size+2) (h.objs.size+3) .none∧IsPair (zH5 h T l1 l2) (h.objs.size+2) (.ref h.objs.size) (.ref (h.objs.size+1)) ∧
  (zH5 h T l1 l2).get? h.objs.size=some {cls:=.type T,data:=.fields #[.ref l1,.int 0 0]}∧∀ c o,h.get? c=some o→(zH5 h T l1 l2).get? c=some o:=by
 have z1:(zH1 h T l1).objs.size=h.objs.size+1:=Heap.size_push ..
 have z2:(zH2 h T l1 l2).objs.size=h.objs.size+2:=by rw [Heap.size_push,z1]
 have z3:(zH3 h T l1 l2).objs.size=h.objs.size+3:=by rw [Heap.size_push,z2]
 have z4:(zH4 h T l1 l2).objs.size=h.objs.size+4:=by rw [Heap.size_push,z3]
 have g5:(zH5 h T l1 l2).get? (zH4 h T l1 l2).objs.size=some _:=Heap.get?_push_size _ rfl
 have g3:(zH5 h T l1 l2).get? (zH2 h T l1 l2).objs.size=some _:=Heap.get?_push_of_some _ (Heap.get?_push_of_some _ (Heap.get?_push_size _ rfl))
 have g1:(zH5 h T l1 l2).get? h.objs.size=some _:=Heap.get?_push_of_some _ (Heap.get?_push_of_some _ (Heap.get?_push_of_some _ (Heap.get?_push_of_some _ (Heap.get?_push_size _ rfl))))
 rw [z2,z3,z4] at g5
 rw [z1,z2] at g3
 exact ⟨z4,g5,g3,g1,fun c o x=>Heap.get?_push_of_some _ (Heap.get?_push_of_some _ (Heap.get?_push_of_some _ (Heap.get?_push_of_some _ (Heap.get?_push_of_some _ x))))⟩
theorem zip_end {z TI TO i1 i2:Addr} {Q:Option Value→Shared→Prop} (hh:A.handled=none) (d1:TI≠z) (d2:i1≠z) (hz:IsZip s.heap z TI TO .none) (hTI:IsPair s.heap TI (.ref i1) (.ref i2))
  (hn:∀ (s':Shared) (A':Around) (E':Value→Shared→Prop) (Q':Value→Shared→Prop),A'.handled=none→Heap.SameBut z s.heap s'.heap→(∀ h' e,Heap.ExtBut i1 s'.heap h'→(∃ o,h'.get? e=some o∧o.cls=.type "StopIteration")→E' (.ref e) {s' with heap:=h'})→wpAny (model prog w) A' (Builtin.SmallTypes.nextOf (.ref i1)) Q' E' s')
  (hQ:∀ h',(∀ c o,c≠z→c≠i1→s.heap.get? c=some o→h'.get? c=some o)→Q none {s with heap:=h'}):wpAny (model prog w) A (pyNext (.ref z)) Q E s:=by
 have hT:s.TypeIs (.ref z) "zip":=⟨_,hz,rfl⟩
 unfold pyNext
 refine wpAny_bind (wpAny_attempt (wpAny_callSpecial?_slot (name:=Str.ofString "__next__") hT F.slot_zip_next
  (wpAny_call_entry F.slot_zip_next hT F.entry_zip_next ?_ (F.args_zip_next_1 _))))
 show wpAny _ _ (field (.ref z) 2 >>= _) _ _ _
 refine wpAny_bind (wpAny_field hz rfl (x:=.bool false) rfl ?_)
 show wpAny _ _ (field (.ref z) 3 >>= _) _ _ _
 refine wpAny_bind (wpAny_field hz rfl (x:=.ref TI) rfl ?_)
 refine wpAny_bind (wpAny_seqItems hTI rfl ?_)
 show wpAny _ _ (Builtin.SmallTypes.ownedTupleIsFree (.ref z) >>= _) _ _ _
 refine wpAny_bind ?_
 unfold Builtin.SmallTypes.ownedTupleIsFree
 refine wpAny_bind (wpAny_field hz rfl (x:=.none) rfl (wpAny_pure ?_))
 simp only [if_true]
 refine wpAny_bind (wpAny_rule ?_)
 refine wpAny_bind (wpAny_field hz rfl (x:=.ref TO) rfl ?_)
 refine wpAny_bind (wpAny_setField_rec hz (by simp) fun h₁ hz₁ hs₁=>?_)
 replace hz₁:IsZip h₁ z TI TO .ellipsis:=hz₁
 refine wpAny_bind ?_
 simp only [List.zipIdx_cons,List.zipIdx_nil,List.forIn_cons,List.forIn_nil]
 refine wpAny_bind (wpAny_bind (wpAny_onRaise ?_))
 show wpAny _ _ (Builtin.SmallTypes.nextOf (.ref i1) >>= _) _ _ _
 refine wpAny_bind (hn {s with heap:=h₁} _ _ _ (by first | exact hh | (show A.in1.handled=none;exact hh)) hs₁ fun h₂ e hs₂ he=>?_)
 obtain ⟨oe,hoe,hce⟩:=he
 have hz₂:IsZip h₂ z TI TO .ellipsis:=hs₂ _ _ d2.symm hz₁
 have hez:e≠z:=fun x=>by subst x;rw [hz₂] at hoe;cases hoe;simp at hce
 refine wpAny_setField_rec hz₂ (by simp) fun h₃ _ hs₃=>?_
 refine wpAny_bind (wpAny_isInstance (T := "StopIteration") (b:=true) ⟨oe,hs₃.extBut _ _ hez hoe,hce⟩ isSubtype_stop ?_)
 exact wpAny_pure (hQ _ fun c o c1 c3 x=>hs₃.extBut _ _ c1 (hs₂ _ _ c3 (hs₁.extBut _ _ c1 x)))
end
theorem upFrom_len (n:Nat):∀ a:Int,(upFrom a n).length=n:=by
 induction n with
 | zero=>exact fun _=>rfl
 | succ n ih=>exact fun a=>congrArg (·+1) (ih (a+1))
theorem upFrom_get (n:Nat):∀ {a:Int} {i:Nat} {x:AV},(upFrom a n)[i]?=some x→x=.dat (.int (a+i)):=by
 induction n with
 | zero=>exact fun e=>nos e
 | succ n ih =>
  exact fun {a i x} e=>by
   cases i with
   | zero=>rw [← Option.some.inj e];exact congrArg (fun i=>AV.dat (.int i)) (Int.add_zero a).symm
   | succ i=>rw [ih (i:=i) e];exact congrArg (fun i=>AV.dat (.int i)) (by rw [Int.add_assoc,Int.add_comm 1];rfl)
theorem pairUp_len (f:AV→AV→AV) {l:List AV}:∀ r:List AV,(pairUp f l r).length=min l.length r.length:=by
 induction l with
 | nil=>exact fun r=>(Nat.zero_min _).symm
 | cons a l ih=>exact fun r=>by cases r with
  | nil=>rfl
  | cons b r=>exact (congrArg (·+1) (ih r)).trans (Nat.succ_min_succ _ _).symm
theorem pairUp_get (f:AV→AV→AV) {l:List AV}:∀ {r:List AV} {i:Nat} {a:AV},(pairUp f l r)[i]?=some a→∃ p q,l[i]?=some p∧r[i]?=some q∧a=f p q:=by
 induction l with
 | nil=>exact fun e=>nos e
 | cons x l ih=>exact fun {r i a} e=>by cases r with
  | nil=>exact nos e
  | cons y r=>cases i with
   | zero=>exact ⟨x,y,rfl,rfl,(Option.some.inj e).symm⟩
   | succ i=>exact ih (i:=i) e
section
variable {g:Gd} {c:Cx} {fm fm':Fm} {w w1:Wo} {H H' H1 H2:Hp} {a b v:AV} {l:List AV} {x xa xb:Value} {y t it:MX} {ws us:List Value} {vs:List AV} {tk p:Nat} {K:Value→Shared→Prop} {o:Ops} {n i:Nat} {s:Shared} {h':Heap} {E:Value→Shared→Prop}
theorem letGo_plain {target:Expr} {J:Addr} {ob:Obj} {n:String} {v:Value} {Q:Unit→Shared→Prop} {M:Model} (ho:s.heap.get? J=some ob) (hc:ob.cls=.type n)
  (hn:["enumerate", "zip", "dict_itemiterator", "dict_reverseitemiterator", "odict_iterator", "itertools.zip_longest", "itertools.pairwise"].contains n=false) (h:Q () s):wpAny M A (letOwnedTupleGo target (.ref J) v) Q E s:=by
 have main:wpAny M A (do
   let (.ref r,.ref a):=(Value.ref J,v) | return
   let o ← load r
   match o.cls,o.data with
   | .type n,.fields vs =>
    if ["enumerate", "zip", "dict_itemiterator", "dict_reverseitemiterator", "odict_iterator", "itertools.zip_longest", "itertools.pairwise"].contains n&&vs[0]?==some (rawInt a) then
     rule "for.unpacks-the-owned-tuple"
     updateField r 0 .none
   | _,_=>pure ():Sem Unit) Q E s:=by
  cases v <;> first | exact wpAny_pure h | skip
  refine wpAny_bind (wpAny_load ho ?_)
  obtain ⟨c,dct,dt,sl⟩:=ob
  have hc:c=.type n:=hc
  subst hc
  cases dt <;> first | exact wpAny_pure h | skip
  dsimp only
  rw [hn,Bool.false_and]
  exact wpAny_pure h
 unfold letOwnedTupleGo
 cases target <;> first | exact wpAny_pure h | exact main
theorem PoI.nx (P:PoI g c fm H t vs K w) (X:Ex (Own g c) w w1):PoI g c fm H t vs K w1:=fun w2 J Z Y I h=>P w2 J Z (X.trans Y) I fun b z=>X.ex (h b z)
theorem PoI.gr {J:Addr} {X:List Addr} (P:PoI g c fm H t vs K w) (I:In g c fm w H) (G:∀ b o,w.s.heap.get? b=some o→h'.get? b=some o) (hX:∀ b∈X,w.h b=none) (hI:IterOK g c t (·∈X) ⟨w.k,{w.s with heap:=h',toks:=tk}⟩ vs J):K (.ref J) {w.s with heap:=h',toks:=tk} :=
 P ⟨w.k,_⟩ J (·∈X) (Ex.gr G).wk (I.gr G) hX hI
theorem plain_it {J ax:Addr} {St:Nat→Heap→Prop} {n:String} (W:Walks g.st.prog g.st.w c.A J [J,ax] [J] ws.toArray.size (fun i v=>ws.toArray[i]?=some v) St) (hst:St 0 w.s.heap) (hJ:∀ i h,St i h→∃ o,h.get? J=some o∧o.cls=.type n)
  (hn:["enumerate", "zip", "dict_itemiterator", "dict_reverseitemiterator", "odict_iterator", "itertools.zip_longest", "itertools.pairwise"].contains n=false) (F:Free w J) {ob:Obj} (hax:w.k.f ax=some ob) (r:VRL g w.k vs ws):IterOK g c t (·∈[J]) w vs J:=by
 have hlen:ws.toArray.size=vs.length:=by rw [List.size_toArray,r.len]
 rw [hlen] at W
 refine ⟨[J,ax],[J],_,_,St,KTurns.ofWalks W fun i v s Q E hs hq=>?_,hst,fun b hb=>?_,fun b hb=>hb,fun b hb=>?_,fun i h hs b hb=>?_,W.self,fun i v k' h a u hp ha=>?_⟩
 ·obtain ⟨ob,ho,hc⟩:=hJ _ _ hs
  exact letGo_plain ho hc hn hq
 ·rcases List.mem_cons.mp hb with hb | hb
  ·exact .inl (List.mem_singleton.mpr hb)
  ·exact .inr ⟨ob,List.mem_singleton.mp hb ▸ hax⟩
 ·rw [List.mem_singleton.mp hb]
  obtain ⟨ob,ho,_⟩:=hJ _ _ hst;exact ⟨F,ob,ho⟩
 ·rw [List.mem_singleton.mp hb]
  obtain ⟨ob,ho,_⟩:=hJ _ _ hs;exact ne_of ho
 ·obtain ⟨v',e,rv⟩:=r.get ha
  have hp:ws.toArray[i]?=some v:=hp
  rw [List.getElem?_toArray,e] at hp
  exact .inl (Option.some.inj hp ▸ rv.up u)
theorem plain_ok (he:EvS g o.ev) (q:ob2 (o.ev fm it H) (fun v H=>ob (froz v) fun x=>some (x,H))=some (vs,H')) (I:In g c fm w H) (P:PoI g c fm H' t vs K w):Wp g c (eval (untr g.N it) c.env) (fun xv s₁=>wpAny (model g.st.prog g.st.w) c.A (pyIter xv) K c.E s₁) w :=
 he.ob q I fun a H1 q w1 xa X I ra=>ob_e q fun m em q=>pr_e q fun e1 e2=>by
  subst e1;subst e2
  have P:=P.nx X
  refine alt_e em (fun e=>ob_e e fun ds e q=>?_) fun e=>?_
  ·obtain ⟨d,ws,rfl,⟨n,hd⟩,r⟩:=lstV_r e ra
   rw [Option.some.inj q] at r
   have ih:=I.R.fr hd
   refine wpAny_pyIter_list (sq_list ih) (P.gr (X:=[w1.s.heap.objs.size]) (tk:=w1.s.toks) I (push_gr _ _) (fun b hb=>by rw [List.mem_singleton.mp hb];exact size_none _) ?_)
   exact plain_it (n := "list_iterator") (Walks.list I.st.hd _ d (Nat.ne_of_lt (Heap.lt_size ih)) ws.toArray) ⟨⟨_,push_at _ rfl,rfl,rfl⟩,⟨_,push_gr _ _ _ _ ih,rfl,n,rfl⟩⟩ (fun i h hs=>let ⟨ob,e,c,_⟩:=hs.1;⟨ob,e,c⟩) (by decide) (I.new (size_none _)) hd r
  ·obtain ⟨d,ws,rfl,⟨n,hd⟩,r⟩:=tupI_r e ra
   have ih:=I.R.fr hd
   refine wpAny_pyIter_tuple (sq_tuple ih) (P.gr (X:=[w1.s.heap.objs.size]) (tk:=w1.s.toks) I (push_gr _ _) (fun b hb=>by rw [List.mem_singleton.mp hb];exact size_none _) ?_)
   exact plain_it (n := "tuple_iterator") (Walks.tuple I.st.hd _ d (Nat.ne_of_lt (Heap.lt_size ih)) ws.toArray) ⟨⟨_,push_at _ rfl,rfl,rfl⟩,⟨_,push_gr _ _ _ _ ih,rfl,n,rfl⟩⟩ (fun i h hs=>let ⟨ob,e,c,_⟩:=hs.1;⟨ob,e,c⟩) (by decide) (I.new (size_none _)) hd r
theorem range_ok {a b:Int} {r:Addr} {u v w':Tok} (ha:inR a=true) (hb:inR b=true) (hr:IsRange w.s.heap r a b 1 u v w') (I:In g c fm w H) (P:PoI g c fm H t (rangeL a b) K w):Wp g c (pyIter (.ref r)) K w:=and_e ha fun h1 h2=>and_e hb fun h3 h4=>by
 have h1:=of_decide_eq_true h1
 have h2:=of_decide_eq_true h2
 have h3:=of_decide_eq_true h3
 have h4:=of_decide_eq_true h4
 refine wpAny_pyIter_range hr (small_one (by omega) (by omega) (by omega) (by omega)) ?_
 have hn:Builtin.Range.rangeSize a b 1=(((b - a).toNat:Nat):Int):=by
  rw [rangeSize_one];split <;> omega
 have e1:(w.s.heap.push {cls:=.type "range_iterator",data:=.fields #[rawInt a,rawInt (Builtin.Range.rangeSize a b 1),rawInt 1]}).get? w.s.heap.objs.size=some _:=push_at _ rfl
 refine P.gr (X:=[w.s.heap.objs.size]) (tk:=w.s.toks) I (push_gr _ _) (fun b hb=>by rw [List.mem_singleton.mp hb];exact size_none _) ?_
 have W:=Walks.range (prog:=g.st.prog) (w:=g.st.w) I.st.hd w.s.heap.objs.size a 1 (b - a).toNat
 have hlen:(b - a).toNat=(rangeL a b).length:=(upFrom_len _ a).symm
 rw [hlen] at W
 refine ⟨[w.s.heap.objs.size],[w.s.heap.objs.size],_,_,_,KTurns.ofWalks W fun i v s Q E hs hq=>letGo_plain hs rfl (by decide) hq,?_,fun b hb=>.inl hb,fun b hb=>hb,fun b hb=>?_,fun i h hs b hb=>?_,W.self,fun i v k' h x u hp hx=>?_⟩
 ·show IsRangeIter _ _ _ _ _
  unfold IsRangeIter
  rw [e1,hn,← hlen]
  simp
 ·rw [List.mem_singleton.mp hb];exact ⟨I.new (size_none _),_,e1⟩
 ·rw [List.mem_singleton.mp hb];exact ne_of hs
 ·obtain ⟨t,rfl⟩:=hp
  rw [upFrom_get _ hx,Int.mul_one]
  exact .inl ⟨_,rfl⟩
theorem enum_ok {d:Addr} (ht:(asMTup t).isSome=true) (hd:w.k.f d=some (sqO "list" ws n)) (r:VRL g w.k l ws) (I:In g c fm w H) (P:PoI g c fm H t (pairUp pair2 (rangeL 0 l.length) l) K w):Wp g c (call (.type "enumerate") [.ref d]) (fun xv s₁=>wpAny (model g.st.prog g.st.w) c.A (pyIter xv) K c.E s₁) w:=by
 have ih:=I.R.fr hd
 have hlt:=Heap.lt_size ih
 refine call_enumerate_list (sq_list ih) fun h' he hit hsz hk=>?_
 obtain ⟨oi,hoi,_⟩:=id hit
 have hX:∀ b∈[w.s.heap.objs.size+1,w.s.heap.objs.size],w.h b=none:=fun b hb=>by
  rcases List.mem_cons.mp hb with hb | hb
  ·rw [hb];exact Heap.get?_none_of_le (Nat.le_succ _)
  ·rw [List.mem_singleton.mp hb];exact size_none _
 have hlen:(pairUp pair2 (rangeL 0 l.length) l).length=ws.toArray.size:=by
  rw [pairUp_len,List.size_toArray,r.len,rangeL,upFrom_len]
  simp
 have W:=WalksT.enumerate (prog:=g.st.prog) (w:=g.st.w) I.st.hd (w.s.heap.objs.size+1) w.s.heap.objs.size d (Nat.succ_ne_self _) (Nat.ne_of_lt (Nat.lt_succ_of_lt hlt)) (Nat.ne_of_lt hlt) ws.toArray
 have hst:(∃ old,IsEnum h' (w.s.heap.objs.size+1) w.s.heap.objs.size ((0:Nat):Int) old)∧h'.IsListIter w.s.heap.objs.size d 0∧h'.IsList d ws.toArray:=⟨⟨_,he⟩,hit,sq_list (hk _ _ ih)⟩
 refine W.toU.self 0 {w.s with heap:=h'} K c.E hst ?_
 obtain ⟨ts,ht⟩:=Option.isSome_iff_exists.mp ht
 obtain ⟨kk,tp,rfl⟩:=asMTup_eq ht
 refine P.gr (X:=[w.s.heap.objs.size+1,w.s.heap.objs.size]) (tk:=w.s.toks) I hk hX ?_
 have WK:=KTurns.ofWalksU (elts:=untrL g.N ts) (k:=kk) (pos:=pz tp) W.toU
 rw [← hlen] at WK
 refine ⟨_,_,_,_,_,WK,hst,fun b hb=>?_,fun b hb=>hb,fun b hb=>⟨I.new (hX b hb),?_⟩,fun i h hs b hb=>?_,W.toU.self,fun i v k' h a u hp ha=>?_⟩
 ·rcases List.mem_cons.mp hb with hb | hb
  ·exact .inl (hb ▸ List.mem_cons_self ..)
  ·rcases List.mem_cons.mp hb with hb | hb
   ·exact .inl (hb ▸ List.mem_cons_of_mem _ (List.mem_singleton.mpr rfl))
   ·exact .inr ⟨_,List.mem_singleton.mp hb ▸ hd⟩
 ·rcases List.mem_cons.mp hb with hb | hb
  ·exact ⟨_,hb ▸ he⟩
  ·exact ⟨_,List.mem_singleton.mp hb ▸ hoi⟩
 ·obtain ⟨⟨old,e1⟩,⟨oi,e2,_⟩,_⟩:=hs
  rcases List.mem_cons.mp hb with hb | hb
  ·exact hb ▸ ne_of e1
  ·exact List.mem_singleton.mp hb ▸ ne_of e2
 ·obtain ⟨T,vals,rfl,⟨tt,x,ex,rfl⟩,hT⟩:=hp
  obtain ⟨p,q,h1,h2,rfl⟩:=pairUp_get _ ha
  obtain ⟨x',ex',rx⟩:=r.get h2
  rw [List.getElem?_toArray,ex'] at ex
  rw [upFrom_get _ h1,Int.zero_add]
  exact .inr ⟨rfl,_,_,[.int i tt,x],rfl,rfl,hT,.cons ⟨tt,rfl⟩ (.one (Option.some.inj ex ▸ rx.up u))⟩
theorem zip_ok {d1 d2:Addr} {n1 n2:Nat} {m:List AV} (ht:(asMTup t).isSome=true) (h1:w.k.f d1=some (sqO "list" ws n1)) (h2:w.k.f d2=some (sqO "list" us n2)) (r1:VRL g w.k l ws) (r2:VRL g w.k m us) (I:In g c fm w H) (P:PoI g c fm H t (pairUp pair2 l m) K w):Wp g c (call (.type "zip") [.ref d1,.ref d2]) (fun xv s₁=>wpAny (model g.st.prog g.st.w) c.A (pyIter xv) K c.E s₁) w:=by
 have i1:=I.R.fr h1
 have i2:=I.R.fr h2
 refine call_zip_2 (sq_list i1) (sq_list i2) fun h' hz hTI hTO hi1 hi2 hsz hk=>?_
 obtain ⟨o1,ho1,_⟩:=id hi1
 obtain ⟨o2,ho2,_⟩:=id hi2
 have inX:∀ {P:Addr→Prop},P (w.s.heap.objs.size+4)→P (w.s.heap.objs.size+2)→P (w.s.heap.objs.size+3)→P w.s.heap.objs.size→P (w.s.heap.objs.size+1)→∀ b,b∈[w.s.heap.objs.size+4,w.s.heap.objs.size+2,w.s.heap.objs.size+3,w.s.heap.objs.size,w.s.heap.objs.size+1]→P b:=fun {P} p1 p2 p3 p4 p5 b hb=>by
  rcases List.mem_cons.mp hb with hb | hb
  ·rw [hb];exact p1
  rcases List.mem_cons.mp hb with hb | hb
  ·rw [hb];exact p2
  rcases List.mem_cons.mp hb with hb | hb
  ·rw [hb];exact p3
  rcases List.mem_cons.mp hb with hb | hb
  ·rw [hb];exact p4
  rw [List.mem_singleton.mp hb];exact p5
 have nn:∀ {k},w.h (w.s.heap.objs.size+k)=none:=fun {k}=>Heap.get?_none_of_le (Nat.le_add_right _ _)
 have hX:∀ b∈[w.s.heap.objs.size+4,w.s.heap.objs.size+2,w.s.heap.objs.size+3,w.s.heap.objs.size,w.s.heap.objs.size+1],w.h b=none:=inX nn nn nn (size_none _) nn
 have hlen:(pairUp pair2 l m).length=min ws.toArray.size us.toArray.size:=by
  rw [pairUp_len,List.size_toArray,List.size_toArray,r1.len,r2.len]
 have W:=WalksT.zip2 (prog:=g.st.prog) (w:=g.st.w) I.st.hd _ _ _ _ _ d1 d2 (zipApart_new (Heap.lt_size i1) (Heap.lt_size i2)) ws.toArray us.toArray
 have hst:(IsZip h' (w.s.heap.objs.size+4) (w.s.heap.objs.size+2) (w.s.heap.objs.size+3) .none∧IsPair h' (w.s.heap.objs.size+2) (.ref w.s.heap.objs.size) (.ref (w.s.heap.objs.size+1))∧(∃ a b,IsPair h' (w.s.heap.objs.size+3) a b)∧h'.IsListIter w.s.heap.objs.size d1 0∧h'.IsListIter (w.s.heap.objs.size+1) d2 0∧h'.IsList d1 ws.toArray∧h'.IsList d2 us.toArray) :=
  ⟨hz,hTI,⟨_,_,hTO⟩,hi1,hi2,sq_list (hk _ _ i1),sq_list (hk _ _ i2)⟩
 refine W.toU.self 0 {w.s with heap:=h'} K c.E hst ?_
 obtain ⟨ts,ht⟩:=Option.isSome_iff_exists.mp ht
 obtain ⟨kk,tp,rfl⟩:=asMTup_eq ht
 refine P.gr (X:=[w.s.heap.objs.size+4,w.s.heap.objs.size+2,w.s.heap.objs.size+3,w.s.heap.objs.size,w.s.heap.objs.size+1]) (tk:=w.s.toks) I hk hX ?_
 have WK:=KTurns.ofWalksU (elts:=untrL g.N ts) (k:=kk) (pos:=pz tp) W.toU
 rw [← hlen] at WK
 refine ⟨_,_,_,_,_,WK,hst,fun b hb=>?_,fun b hb=>?_,fun b hb=>⟨I.new (hX b hb),?_⟩,fun i h hs=>?_,W.toU.self,fun i v k' h a u hp ha=>?_⟩
 ·simp only [List.mem_cons,List.not_mem_nil,or_false] at hb ⊢
  rcases hb with hb | hb | hb | hb | hb | hb | hb
  ·exact .inl (.inl hb)
  ·exact .inl (.inr (.inl hb))
  ·exact .inl (.inr (.inr (.inl hb)))
  ·exact .inl (.inr (.inr (.inr (.inl hb))))
  ·exact .inl (.inr (.inr (.inr (.inr hb))))
  ·exact .inr ⟨_,hb ▸ h1⟩
  ·exact .inr ⟨_,hb ▸ h2⟩
 ·simp only [List.mem_cons,List.not_mem_nil,or_false] at hb ⊢
  rcases hb with hb | hb | hb | hb
  ·exact .inl hb
  ·exact .inr (.inr (.inl hb))
  ·exact .inr (.inr (.inr (.inl hb)))
  ·exact .inr (.inr (.inr (.inr hb)))
 ·exact inX (P:=fun b=>∃ o,h'.get? b=some o) ⟨_,hz⟩ ⟨_,hTI⟩ ⟨_,hTO⟩ ⟨_,ho1⟩ ⟨_,ho2⟩ b hb
 ·obtain ⟨e1,e2,⟨_,_,e3⟩,⟨_,e4,_⟩,⟨_,e5,_⟩,_⟩:=hs
  exact inX (ne_of e1) (ne_of e2) (ne_of e3) (ne_of e4) (ne_of e5)
 ·obtain ⟨T,vals,rfl,⟨x,y,ex,ey,rfl⟩,hT⟩:=hp
  obtain ⟨p,q,h1,h2,rfl⟩:=pairUp_get _ ha
  obtain ⟨x',ex',rx⟩:=r1.get h1
  obtain ⟨y',ey',ry⟩:=r2.get h2
  rw [List.getElem?_toArray,ex'] at ex
  rw [List.getElem?_toArray,ey'] at ey
  exact .inr ⟨rfl,_,_,[x,y],rfl,rfl,hT,.cons (Option.some.inj ex ▸ rx.up u) (.one (Option.some.inj ey ▸ ry.up u))⟩
end
end
section
section
variable {g:Gd} {c:Cx} {fm fm':Fm} {w w1:Wo} {H H' H1 H2:Hp} {a b v:AV} {l:List AV} {x xa xb:Value} {y t it:MX} {ws us:List Value} {vs:List AV} {tk p:Nat} {K:Value→Shared→Prop} {o:Ops} {n i:Nat} {s:Shared} {h':Heap} {E:Value→Shared→Prop}
theorem zipE_go {l1 l2:Addr} {T:String} {ob1:Obj} (h1:w.k.f l1=some ob1) (I:In g c fm w H) (P:PoI g c fm H t [] K w)
  (hn:∀ (s':Shared) (A':Around) (E':Value→Shared→Prop) (Q':Value→Shared→Prop),A'.handled=none→s'.heap.get? w.s.heap.objs.size=some {cls:=.type T,data:=.fields #[.ref l1,.int 0 0]}→s'.heap.get? l1=some ob1 →
   (∀ h' e,Heap.ExtBut w.s.heap.objs.size s'.heap h'→(∃ o,h'.get? e=some o∧o.cls=.type "StopIteration")→E' (.ref e) {s' with heap:=h'})→wpAny (model g.st.prog g.st.w) A' (Builtin.SmallTypes.nextOf (.ref w.s.heap.objs.size)) Q' E' s') :
  wpAny (model g.st.prog g.st.w) c.A (pyIter (.ref (zH4 w.s.heap T l1 l2).objs.size)) K c.E {w.s with heap:=zH5 w.s.heap T l1 l2}:=by
 obtain ⟨z4,hz,hTI,hi1,hk⟩:=zip_parts w.s.heap T l1 l2
 rw [z4]
 have e1:=I.R.fr h1
 have hlt:=Heap.lt_size e1
 have inX:∀ {P:Addr→Prop},P (w.s.heap.objs.size+4)→P (w.s.heap.objs.size+2)→P w.s.heap.objs.size→∀ b,b∈[w.s.heap.objs.size+4,w.s.heap.objs.size+2,w.s.heap.objs.size]→P b:=fun {P} p1 p2 p3 b hb=>by
  rcases List.mem_cons.mp hb with hb | hb
  ·rw [hb];exact p1
  rcases List.mem_cons.mp hb with hb | hb
  ·rw [hb];exact p2
  rw [List.mem_singleton.mp hb];exact p3
 have nn:∀ {k},w.h (w.s.heap.objs.size+k)=none:=fun {k}=>Heap.get?_none_of_le (Nat.le_add_right _ _)
 have hX:=inX (P:=fun b=>w.h b=none) nn nn (size_none _)
 have ne4:w.s.heap.objs.size≠w.s.heap.objs.size+4:=Nat.ne_of_lt (Nat.lt_add_of_pos_right (by decide))
 refine wpAny_pyIter_zip hz (P.gr (X:=[w.s.heap.objs.size+4,w.s.heap.objs.size+2,w.s.heap.objs.size]) (tk:=w.s.toks) I hk hX ?_)
 refine ⟨[w.s.heap.objs.size+4,w.s.heap.objs.size+2,w.s.heap.objs.size,l1],[w.s.heap.objs.size+4,w.s.heap.objs.size],fun _ _ _=>False,fun _ _ _=>False,
  fun _ h=>IsZip h (w.s.heap.objs.size+4) (w.s.heap.objs.size+2) (w.s.heap.objs.size+3) .none∧IsPair h (w.s.heap.objs.size+2) (.ref w.s.heap.objs.size) (.ref (w.s.heap.objs.size+1))∧h.get? w.s.heap.objs.size=some {cls:=.type T,data:=.fields #[.ref l1,.int 0 0]}∧h.get? l1=some ob1,
  ⟨fun b hb=>?_,fun i h h' st hk=>?_,fun i s Q E hi=>absurd hi (Nat.not_lt_zero _),fun i v s Q E hm=>hm.elim,fun s' Q E st hQ=>?_⟩,⟨hz,hTI,hi1,hk _ _ e1⟩,fun b hb=>?_,fun b hb=>?_,fun b hb=>⟨I.new (hX b hb),inX (P:=fun b=>∃ o,(zH5 w.s.heap T l1 l2).get? b=some o) ⟨_,hz⟩ ⟨_,hTI⟩ ⟨_,hi1⟩ b hb⟩,fun i h st=>inX (ne_of st.1) (ne_of st.2.1) (ne_of st.2.2.1),fun i s' Q E st hQ=>wpAny_pyIter_zip st.1 hQ,fun i v k' h a u hp=>hp.elim⟩
 ·simp only [List.mem_cons,List.not_mem_nil,or_false] at hb ⊢
  rcases hb with hb | hb
  ·exact .inl hb
  ·exact .inr (.inr (.inl hb))
 ·exact ⟨hk _ (by simp) _ st.1,hk _ (by simp) _ st.2.1,hk _ (by simp) _ st.2.2.1,hk _ (by simp) _ st.2.2.2⟩
 ·refine zip_end I.st.hd (by simp) ne4 st.1 st.2.1 (fun s'' A' E' Q' hA hs he=>?_) fun h' hk'=>hQ h' s'.toks fun o ob hc e=>hk' o ob (fun x=>hc (by simp [x])) (fun x=>hc (by simp [x])) e
  exact hn s'' A' E' Q' hA ((hs.2 _ ne4).trans st.2.2.1) ((hs.2 _ (Nat.ne_of_lt (Nat.lt_of_lt_of_le hlt (Nat.le_add_right _ 4)))).trans st.2.2.2) he
 ·simp only [List.mem_cons,List.not_mem_nil,or_false] at hb ⊢
  rcases hb with hb | hb | hb | hb
  ·exact .inl (.inl hb)
  ·exact .inl (.inr (.inl hb))
  ·exact .inl (.inr (.inr hb))
  ·exact .inr ⟨_,hb ▸ h1⟩
 ·simp only [List.mem_cons,List.not_mem_nil,or_false] at hb ⊢
  rcases hb with hb | hb
  ·exact .inl hb
  ·exact .inr (.inr hb)
theorem zip_tt {l1 l2:Addr} {n1 n2:Nat} (h1:w.k.f l1=some (sqO "tuple" [] n1)) (h2:w.k.f l2=some (sqO "tuple" us n2)) (I:In g c fm w H) (P:PoI g c fm H t [] K w):Wp g c (call (.type "zip") [.ref l1,.ref l2]) (fun xv s₁=>wpAny (model g.st.prog g.st.w) c.A (pyIter xv) K c.E s₁) w:=by
 have e1:=I.R.fr h1
 refine callType_new PySem.F.called_zip (by decide) (PySem.F.typeCall_zip_2 _ _) (PySem.F.newCall_zip_2 _ _) (fun obj=>PySem.F.args_object_init_3 obj _ _) PySem.F.entry_zip_new (zip_new_tt l1 l2 us.toArray) ⟨⟨_,e1,rfl,n1,rfl⟩,sq_tuple (I.R.fr h2),?_⟩
 refine ⟨⟨_,Heap.get?_push_size _ rfl,rfl⟩,?_⟩
 exact zipE_go h1 I P fun s' A' E' Q' hA hi hl hE=>nextOf_tup_end hA ⟨_,hi,rfl,rfl⟩ ⟨_,hl,rfl,n1,rfl⟩ hE
theorem zip_lt {l1 l2:Addr} {n1 n2:Nat} (h1:w.k.f l1=some (sqO "list" [] n1)) (h2:w.k.f l2=some (sqO "tuple" us n2)) (I:In g c fm w H) (P:PoI g c fm H t [] K w):Wp g c (call (.type "zip") [.ref l1,.ref l2]) (fun xv s₁=>wpAny (model g.st.prog g.st.w) c.A (pyIter xv) K c.E s₁) w:=by
 have e1:=I.R.fr h1
 refine callType_new PySem.F.called_zip (by decide) (PySem.F.typeCall_zip_2 _ _) (PySem.F.newCall_zip_2 _ _) (fun obj=>PySem.F.args_object_init_3 obj _ _) PySem.F.entry_zip_new (zip_new_lt l1 l2 us.toArray) ⟨⟨_,e1,rfl,n1,rfl⟩,sq_tuple (I.R.fr h2),?_⟩
 refine ⟨⟨_,Heap.get?_push_size _ rfl,rfl⟩,?_⟩
 exact zipE_go h1 I P fun s' A' E' Q' hA hi hl hE=>wpAny_nextOf_list_end hA ⟨_,hi,rfl,rfl⟩ ⟨_,hl,rfl,n1,rfl⟩ rfl hE
theorem keeps_ty {f:String}:Keeps g (.type f):=fun h' X=>⟨.machine,.inr (.inl rfl),Looks.of_pure rfl⟩
theorem LR.v1 {α β:Type} {P:α→β→Prop} {l:List α} {us:List β} {q:α} (e:v1 l=some q) (r:LR P l us):∃ u,us=[u]∧P q u:=by
 rw [v1_eq e] at r
 exact r.c fun u us p r=>r.n ⟨u,rfl,p⟩
theorem LR.v2 {α β:Type} {P:α→β→Prop} {l:List α} {us:List β} {q:α×α} (e:v2 l=some q) (r:LR P l us):∃ u v,us=[u,v]∧P q.1 u∧P q.2 v:=by
 rw [v2_eq e] at r
 exact r.c fun u us p r=>r.c fun v us p' r=>r.n ⟨u,v,rfl,p,p'⟩
noncomputable def MakS (g:Gd) (c:Cx) (fm:Fm) (t:MX) (K:Value→Shared→Prop) (T:String) (f:List AV→Option (List AV)):Prop:=∀ {ws vs H w xs},f ws=some vs→In g c fm w H→VRL g w.k ws xs→PoI g c fm H t vs K w→Wp g c (call (.type T) xs) (fun xv s₁=>wpAny (model g.st.prog g.st.w) c.A (pyIter xv) K c.E s₁) w
theorem mak_range:MakS g c fm t K "range" rangeI:=fun {ws vs H w xs} e I r P=>by
 refine alt_e e (fun e=>ob_e e fun q e1 e=>ob_e e fun b e2 e=>gb_e e fun hb e=>?_) fun e=>ob_e e fun q e1 e=>ob_e e fun a e2 e=>ob_e e fun b e3 e=>gb_e e fun hb e=>and_e hb fun ha hb=>?_
 ·obtain ⟨u,rfl,p⟩:=r.v1 e1
  obtain ⟨t',rfl⟩:=intV_r e2 p
  rw [← Option.some.inj e] at P
  refine call_range_1 ?_
  have G:=push_gr w.s.heap {cls:=.type "range",data:=.fields #[.int 0 w.s.toks,.int b t',.int 1 (w.s.toks+1)]}
  exact range_ok (w:=⟨w.k,{w.s with heap:=w.s.heap.push {cls:=.type "range",data:=.fields #[.int 0 w.s.toks,.int b t',.int 1 (w.s.toks+1)]},toks:=w.s.toks+1+1}⟩) (by decide) hb (IsRange.new w.s.heap 0 b 1 w.s.toks t' (w.s.toks+1)) (I.gr G) (P.nx (Ex.gr G).wk)
 ·obtain ⟨u,v,rfl,p,p'⟩:=r.v2 e1
  obtain ⟨t',rfl⟩:=intV_r e2 p
  obtain ⟨t'',rfl⟩:=intV_r e3 p'
  rw [← Option.some.inj e] at P
  refine call_range_2 ?_
  have G:=push_gr w.s.heap {cls:=.type "range",data:=.fields #[.int a t',.int b t'',.int 1 w.s.toks]}
  exact range_ok (w:=⟨w.k,{w.s with heap:=w.s.heap.push {cls:=.type "range",data:=.fields #[.int a t',.int b t'',.int 1 w.s.toks]},toks:=w.s.toks+1}⟩) ha hb (IsRange.new w.s.heap a b 1 t' t'' w.s.toks) (I.gr G) (P.nx (Ex.gr G).wk)
theorem mak_zip (ht:(asMTup t).isSome=true):MakS g c fm t K "zip" zipI:=fun {ws vs H w xs} e I r P=>ob_e e fun q e1 e=>by
 obtain ⟨u,v,rfl,p,p'⟩:=r.v2 e1
 refine alt_e e (fun e=>ob_e e fun x e2 e=>ob_e e fun y e3 e=>?_) fun e=>ob_e e fun y e3 e=>gb_e e fun hb e=>?_
 ·obtain ⟨d1,us1,rfl,⟨n1,h1⟩,r1⟩:=lstV_r e2 p
  obtain ⟨d2,us2,rfl,⟨n2,h2⟩,r2⟩:=lstV_r e3 p'
  rw [← Option.some.inj e] at P
  exact zip_ok ht h1 h2 r1 r2 I P
 ·obtain ⟨d2,us2,rfl,⟨n2,h2⟩,r2⟩:=tupV_r e3 p'
  rw [← Option.some.inj e] at P
  rcases (Bool.or_eq_true ..).mp hb with hb | hb
  ·refine optB_e hb fun z e2 hb=>?_
   obtain ⟨d1,us1,rfl,⟨n1,h1⟩,r1⟩:=tupV_r e2 p
   rw [List.isEmpty_iff.mp hb] at r1
   rw [show us1=[] from r1] at h1
   exact zip_tt h1 h2 I P
  ·refine optB_e hb fun z e2 hb=>?_
   obtain ⟨d1,us1,rfl,⟨n1,h1⟩,r1⟩:=lstV_r e2 p
   rw [List.isEmpty_iff.mp hb] at r1
   rw [show us1=[] from r1] at h1
   exact zip_lt h1 h2 I P
theorem mak_enum (ht:(asMTup t).isSome=true):MakS g c fm t K "enumerate" enumI:=fun {ws vs H w xs} e I r P=>ob_e e fun q e1 e=>ob_e e fun x e2 e=>by
 obtain ⟨u,rfl,p⟩:=r.v1 e1
 obtain ⟨d1,us1,rfl,⟨n1,h1⟩,r1⟩:=lstV_r e2 p
 rw [← Option.some.inj e,show x.length=(datL x).length from List.length_map _ |>.symm] at P
 exact enum_ok ht h1 r1 I P
theorem asCall_eq {q:MX×List MX} (e:asCall y=some q):∃ p,y=.call q.1 q.2 p:=by
 cases y with
 | call f xs p=>exact ⟨p,congrArg (fun q:MX×List MX=>MX.call q.1 q.2 p) (Option.some.inj e)⟩
 | _=>exact nos e
theorem asGlob_eq (e:asGlob y=some i):∃ p,y=.glob i p:=by
 cases y with
 | glob j p=>exact ⟨p,congrArg (fun j=>MX.glob j p) (Option.some.inj e)⟩
 | _=>exact nos e
theorem items_ok (G:GdOK g) (he:EvS g o.ev):ItemsS g o:=fun {c fm t it H vs H' w K} q I P=>by
 have go:∀ {gi p p' xs nm f},GlobAt g.st gi (.type nm)→isGl fm.sc gi=true→MakS g c fm t K nm f→ob2 (evs o.ev fm xs H) (fun vs H=>ob (f vs) fun x=>some (x,H))=some (vs,H')→Wp g c (eval (untr g.N (.call (.glob gi p') xs p)) c.env) (fun xv s₁=>wpAny (model g.st.prog g.st.w) c.A (pyIter xv) K c.E s₁) w:=fun {gi p p' xs nm f} hg hk hf q=>ob2_e q fun us H1 e q=>ob_e q fun m em q=>pr_e q fun e1 e2=>by
  subst e1;subst e2
  exact Call_ (hg c.A c.E w.s _ c.env (pz p') I.st.kind I.st.glob I.st.bui (I.st.ngl hk) I.R.gr (args_ok (first:=[]) G he keeps_ty e I fun w1 xs X I1 r=>hf em I1 r (P.nx X)))
 unfold items at q
 cases e0:(ob (asCall it) fun p=>ob (asGlob p.1) fun g1=>ob (itOf g.st.I fm.sc g1) fun q=>some (p.2,q)) with
 | none=>rw [e0] at q;exact plain_ok he q I P
 | some u =>
  rw [e0] at q
  refine ob_e e0 fun cf e1 e0=>ob_e e0 fun gi e2 e0=>ob_e e0 fun mk e3 e9=>?_
  obtain ⟨p,rfl⟩:=asCall_eq e1
  obtain ⟨p',e4⟩:=asGlob_eq e2
  rw [e4]
  rw [← Option.some.inj e9] at q
  refine gb_e q fun ht q=>gb_e e3 fun hk e3=>?_
  cases z1:Nat.beq gi g.st.I.range with
  | true =>
   rw [z1] at e3
   rw [← Option.some.inj e3] at q
   exact go (Nat.eq_of_beq_eq_true z1 ▸ G.rng) hk mak_range q
  | false =>
   rw [z1] at e3
   cases z2:Nat.beq gi g.st.I.zip with
   | true =>
    rw [z2] at e3
    rw [← Option.some.inj e3] at q ht
    exact go (Nat.eq_of_beq_eq_true z2 ▸ G.zpn) hk (mak_zip ht) q
   | false =>
    rw [z2] at e3
    cases z3:Nat.beq gi g.st.I.enum with
    | true =>
     rw [z3] at e3
     rw [← Option.some.inj e3] at q ht
     exact go (Nat.eq_of_beq_eq_true z3 ▸ G.enm) hk (mak_enum ht) q
    | false=>rw [z3] at e3;exact nos e3
end
end
section
theorem lookN_mem {α:Type} {sc:List (Nat×α)} {i:Nat} {k:α} (h:lookN sc i=some k):(i,k)∈sc:=by
 induction sc with
 | nil=>exact nos h
 | cons p r ih =>
  replace h:cond (Nat.beq p.1 i) (some p.2) (lookN r i)=some k:=h
  by_cases e:p.1=i
  ·rw [e,Nat.beq_refl] at h;rw [← e,← Option.some.inj h];exact List.mem_cons_self ..
  ·rw [beq_f e] at h;exact List.mem_cons_of_mem _ (ih h)
theorem lookN_cons {α:Type} {j i:Nat} {u:α} {r:List (Nat×α)}:lookN ((j,u)::r) i=if j=i then some u else lookN r i:=by
 show cond (Nat.beq j i) (some u) (lookN r i)=_
 by_cases e:j=i
 ·rw [if_pos e,e,Nat.beq_refl];rfl
 ·rw [if_neg e,beq_f e];rfl
theorem lookN_nin {sc:Sc} {i:Nat} (h:i∉sc.map (·.1)):lookN sc i=none:=nn_none fun ⟨k,e⟩=>h (List.mem_map_of_mem (f:=(·.1)) (lookN_mem e))
theorem lookN_of_mem {sc:Sc} {i:Nat} {k:NameKind} (hn:(sc.map (·.1)).Nodup) (h:(i,k)∈sc):lookN sc i=some k:=by
 induction sc with
 | nil=>exact nomatch h
 | cons p r ih =>
  rw [List.map_cons,List.nodup_cons] at hn
  rw [show p=(p.1,p.2) from rfl,lookN_cons]
  rcases List.mem_cons.mp h with e | h
  ·rw [← e,if_pos rfl]
  ·rw [if_neg fun (e:p.1=i)=>hn.1 (by rw [e];exact List.mem_map_of_mem (f:=(·.1)) h)];exact ih hn.2 h
theorem lookup_scUn (N:Nat→Str) (inj:∀ {i j},N i=N j→i=j) (i:Nat) (sc:Sc):(sc.map fun x=>(N x.1,x.2)).lookup (N i)=lookN sc i:=by
 induction sc with
 | nil=>rfl
 | cons p r ih =>
  rw [List.map_cons,List.lookup_cons,show p=(p.1,p.2) from rfl,lookN_cons]
  by_cases e:p.1=i
  ·rw [if_pos e,e,beq_self_eq_true]
  ·rw [if_neg e,beq_eq_false_iff_ne.mpr fun q=>e (inj q).symm];exact ih
theorem relabel_lookup (scope:Scope) (env:Env) (x:Str):(relabel scope env).names.lookup x=(scope.names.lookup x).map fun k=>if (k==.free&&env.scope.kind==.function&&env.kindOf x==some .cell)=true then NameKind.cell else k:=by
 show List.lookup x (scope.names.map fun (n,k)=>if (k==.free&&env.scope.kind==.function&&env.kindOf n==some .cell) then (n,.cell) else (n,k))=_
 induction scope.names with
 | nil=>rfl
 | cons y r ih =>
  obtain ⟨n,k⟩:=y
  rw [List.map_cons]
  cases hx:x==n with
  | true =>
   have e:x=n:=beq_iff_eq.mp hx
   subst e
   by_cases hc:(k==NameKind.free&&env.scope.kind==.function&&env.kindOf x==some .cell)=true
   ·simp only [hc,if_true,List.lookup_cons,beq_self_eq_true,Option.map_some]
   ·simp only [hc,if_false,List.lookup_cons,beq_self_eq_true,Option.map_some,Bool.false_eq_true]
  | false =>
   by_cases hc:(k==NameKind.free&&env.scope.kind==.function&&env.kindOf n==some .cell)=true
   ·simp only [hc,if_true,List.lookup_cons,hx];exact ih
   ·simp only [hc,if_false,List.lookup_cons,hx,Bool.false_eq_true];exact ih
section
variable {M:Model} {A:Around} {E:Value→Shared→Prop} {s:Shared}
theorem newEnv_comp {scope:Scope} {globals:Addr} {cl:List (Str×Addr)} {qual:Str} {around:Env} {Q:Env→Shared→Prop}
  (h:Q {scope,locals:=s.heap.objs.size,globals,cells:=cellsFrom (s.heap.objs.size+1) scope.names cl,qual,func:=none,code:=around.code,frame:=around.frame,builtins:=around.builtins} {s with heap:=pushCells (s.heap.push {cls:=.type "dict",data:=.dict #[]}) scope.names}) :
  wpAny M A (newFunctionEnv scope globals cl [] qual none .none (some around)) Q E s:=by
 simp only [newFunctionEnv,Option.isSome_some,if_true]
 refine wpAny_bind (wpAny_alloc ?_)
 refine wpAny_bind (wpAny_layCells _ (fun name kind cells=>by cases hkc:kind==NameKind.cell <;> simp [hkc]) _ _ _ _ ?_)
 rw [show ({s with heap:=s.heap.push {cls:=.type "dict",data:=.dict #[]}}:Shared).heap.objs.size=s.heap.objs.size+1 from Heap.size_push ..]
 refine wpAny_bind ?_
 rw [List.forIn_nil]
 exact wpAny_pure (wpAny_pure h)
end
theorem cells_look:∀ (names:List (Str×NameKind)) (h:Heap) (acc:List (Str×Addr)) (x:Str),(names.map (·.1)).Nodup →
  (names.lookup x=some .cell→∃ c,(cellsFrom h.objs.size names acc).lookup x=some c∧h.objs.size≤c∧(pushCells h names).IsCell c none) ∧
  (names.lookup x≠some .cell→(cellsFrom h.objs.size names acc).lookup x=acc.lookup x)
 | [],h,acc,x,_=>⟨fun e=>by simp at e,fun _=>rfl⟩
 | (n,k)::r,h,acc,x,hn=>by
  rw [List.map_cons,List.nodup_cons] at hn
  have hnot:x=n→r.lookup x=none:=fun e=>by
   subst e
   cases q:r.lookup x with
   | none=>rfl
   | some v=>exact absurd (List.mem_map_of_mem (f:=(·.1)) (mem_of_lookup q)) hn.1
  unfold cellsFrom pushCells
  by_cases hk:(k==NameKind.cell)=true
  ·rw [if_pos hk,if_pos hk]
   have hk':k=.cell:=beq_iff_eq.mp hk
   subst hk'
   have ih:=cells_look r (h.push {cls:=.type "cell",data:=.cell none}) ((n,h.objs.size)::acc) x hn.2
   rw [Heap.size_push] at ih
   by_cases e:x=n
   ·subst e
    refine ⟨fun _=>⟨h.objs.size,?_,Nat.le_refl _,?_⟩,fun q=>?_⟩
    ·rw [ih.2 (by rw [hnot rfl];simp)]
     simp [List.lookup_cons]
    ·have:(h.push {cls:=.type "cell",data:=.cell none}).IsCell h.objs.size none:=⟨_,Heap.get?_push_size _ rfl,rfl⟩
     exact this.keeps fun b o q=>pushCells_keeps r _ b o q
    ·exact absurd (by simp [List.lookup_cons]) q
   ·have hb:(x==n)=false:=beq_eq_false_iff_ne.mpr e
    refine ⟨fun q=>?_,fun q=>?_⟩
    ·rw [List.lookup_cons,hb] at q
     obtain ⟨c,h1,h2,h3⟩:=ih.1 q
     exact ⟨c,h1,Nat.le_of_succ_le h2,h3⟩
    ·rw [List.lookup_cons,hb] at q
     rw [ih.2 q,List.lookup_cons,hb]
  ·rw [if_neg hk,if_neg hk]
   have ih:=cells_look r h acc x hn.2
   by_cases e:x=n
   ·subst e
    have hne:k≠.cell:=fun q=>hk (by rw [q];rfl)
    refine ⟨fun q=>?_,fun q=>?_⟩
    ·simp [List.lookup_cons] at q;exact absurd q hne
    ·exact ih.2 (by rw [hnot rfl];simp)
   ·have hb:(x==n)=false:=beq_eq_false_iff_ne.mpr e
    refine ⟨fun q=>?_,fun q=>?_⟩
    ·rw [List.lookup_cons,hb] at q;exact ih.1 q
    ·rw [List.lookup_cons,hb] at q;exact ih.2 q
noncomputable def closL (N:Nat→Str) (env:Env) (sc:Sc):List (Str×Addr)→List (Str×Addr):=lrec (fun acc=>acc) (fun p _ q acc=>q (cond (isFree p.2) (Option.rec acc (fun c=>(N p.1,c)::acc) (env.cells.lookup (N p.1))) acc)) sc
theorem clos_go (N:Nat→Str) (env:Env) (f:Str×NameKind→List (Str×Addr)→Sem (ForInStep (List (Str×Addr)))) (hf:∀ n k cs,f (n,k) cs=if k==.free then (do let a ← cellOf env n;pure (.yield ((n,a)::cs))) else pure (.yield cs)) (sc:Sc):∀ (acc:List (Str×Addr)),(∀ i,(i,NameKind.free)∈sc→∃ c,env.cells.lookup (N i)=some c) →
  forIn (sc.map fun x=>(N x.1,x.2)) acc f=pure (closL N env sc acc):=by
 induction sc with
 | nil=>exact fun acc h=>by rw [List.map_nil,List.forIn_nil];rfl
 | cons p r ih =>
  intro acc h
  obtain ⟨i,k⟩:=p
  have ih:=fun acc=>ih acc fun j q=>h j (List.mem_cons_of_mem _ q)
  rw [List.map_cons,List.forIn_cons,hf]
  by_cases hk:k=.free
  ·subst hk
   obtain ⟨c,hc⟩:=h i (List.mem_cons_self ..)
   simp only [beq_self_eq_true,if_true]
   unfold cellOf
   show _=pure (closL N env r (Option.rec acc (fun c=>(N i,c)::acc) (env.cells.lookup (N i))))
   rw [hc]
   simp only [pure_bind,ih]
  ·rw [beq_eq_false_iff_ne.mpr hk]
   simp only [Bool.false_eq_true,if_false,pure_bind,ih]
   cases k <;> first | rfl | exact absurd rfl hk
theorem closure_scUn (N:Nat→Str) (env:Env) (sc:Sc) (h:∀ i,(i,NameKind.free)∈sc→∃ c,env.cells.lookup (N i)=some c):closureFor (scUn N sc) env=pure (closL N env sc []):=by
 unfold closureFor
 show (forIn (sc.map fun x=>(N x.1,x.2)) [] _ >>= _)=_
 rw [clos_go N env _ (fun n k cs=>by cases hk:k==NameKind.free <;> simp [hk]) sc [] h]
 simp
theorem closL_look (N:Nat→Str) (inj:∀ {i j},N i=N j→i=j) (env:Env) (i:Nat) (sc:Sc):∀ (acc:List (Str×Addr)),(sc.map (·.1)).Nodup →
  (lookN sc i=some .free→(∃ c,env.cells.lookup (N i)=some c)→(closL N env sc acc).lookup (N i)=env.cells.lookup (N i))∧(lookN sc i≠some .free→(closL N env sc acc).lookup (N i)=acc.lookup (N i)):=by
 induction sc with
 | nil=>exact fun acc _=>⟨fun e=>nos e,fun _=>rfl⟩
 | cons p r ih =>
  intro acc hn
  obtain ⟨j,k⟩:=p
  rw [List.map_cons,List.nodup_cons] at hn
  rw [lookN_cons]
  show (_→_→(closL N env r (cond (isFree k) (Option.rec acc (fun c=>(N j,c)::acc) (env.cells.lookup (N j))) acc)).lookup (N i)=_)∧(_→(closL N env r (cond (isFree k) (Option.rec acc (fun c=>(N j,c)::acc) (env.cells.lookup (N j))) acc)).lookup (N i)=_)
  by_cases e:j=i
  ·subst e
   rw [if_pos rfl]
   have z:=fun acc=>(ih acc hn.2).2 (by rw [lookN_nin hn.1];exact nofun)
   rw [z]
   cases k with
   | free =>
    refine ⟨fun _ hc=>?_,fun q=>absurd rfl q⟩
    obtain ⟨c,hc⟩:=hc
    rw [hc]
    show List.lookup (N j) ((N j,c)::acc)=_
    rw [List.lookup_cons,beq_self_eq_true]
   | _=>exact ⟨fun q=>(nomatch q),fun _=>rfl⟩
  ·rw [if_neg e]
   obtain ⟨a,b⟩:=ih (cond (isFree k) (Option.rec acc (fun c=>(N j,c)::acc) (env.cells.lookup (N j))) acc) hn.2
   refine ⟨a,fun q=>(b q).trans ?_⟩
   cases isFree k with
   | false=>rfl
   | true =>
    cases env.cells.lookup (N j) with
    | none=>rfl
    | some c =>
     show List.lookup (N i) ((N j,c)::acc)=_
     rw [List.lookup_cons,beq_eq_false_iff_ne.mpr fun q=>e (inj q).symm]
theorem freeOK_of {sc0 sc:Sc} (h:freeOK sc0 sc=true) {i:Nat} (hm:(i,NameKind.free)∈sc):kindOfI sc0 i=some .ce:=by
 have z:(!isFree NameKind.free||optB (kindOfI sc0 i) fun k=>VK.rec false true false k)=true:=List.all_eq_true.mp h _ hm
 refine optB_e (show (optB (kindOfI sc0 i) fun k=>VK.rec false true false k)=true from z) fun k e q=>?_
 rw [e];cases k with
 | ce=>rfl
 | _=>exact nft q
theorem freeVars_look {sc:Sc} {i:Nat} {v:AV} {vs:List (Nat×AV)} (h:lookN (freeVars sc vs) i=some v):lookN vs i=some v∧lookN sc i=some .free:=by
 induction vs with
 | nil=>exact nos h
 | cons p r ih =>
  obtain ⟨j,u⟩:=p
  unfold freeVars at h
  rw [List.filter_cons] at h
  rw [lookN_cons]
  by_cases hj:isFreeI sc j=true
  ·rw [if_pos hj,lookN_cons] at h
   by_cases e:j=i
   ·rw [if_pos e] at h ⊢
    refine ⟨h,optB_e hj fun k ek q=>?_⟩
    rw [e] at ek;rw [ek]
    cases k with
    | free=>rfl
    | _=>exact nft q
   ·rw [if_neg e] at h ⊢;exact ih h
  ·rw [if_neg hj] at h
   obtain ⟨a,b⟩:=ih h
   refine ⟨?_,b⟩
   rw [if_neg fun e=>hj (by rw [e];unfold isFreeI;rw [b];rfl)];exact a
theorem cells_inj:∀ (names:List (Str×NameKind)) (h:Heap) (acc:List (Str×Addr)) (x y:Str) (c:Addr),(names.map (·.1)).Nodup→names.lookup x=some .cell→names.lookup y=some .cell →
  (cellsFrom h.objs.size names acc).lookup x=some c→(cellsFrom h.objs.size names acc).lookup y=some c→x=y
 | [],h,acc,x,y,c,_,e,_,_,_=>by simp at e
 | (n,k)::r,h,acc,x,y,c,hn,hx,hy,ex,ey=>by
  rw [List.map_cons,List.nodup_cons] at hn
  have hnot:∀ x,x=n→r.lookup x=none:=fun x e=>by
   subst e
   cases q:r.lookup x with
   | none=>rfl
   | some v=>exact absurd (List.mem_map_of_mem (f:=(·.1)) (mem_of_lookup q)) hn.1
  unfold cellsFrom at ex ey
  by_cases hk:(k==NameKind.cell)=true
  ·rw [if_pos hk] at ex ey
   have ih:=cells_inj r (h.push {cls:=.type "cell",data:=.cell none}) ((n,h.objs.size)::acc) x y c hn.2
   have cl:=fun z=>cells_look r (h.push {cls:=.type "cell",data:=.cell none}) ((n,h.objs.size)::acc) z hn.2
   rw [Heap.size_push] at ih cl
   have head:∀ z,z=n→(cellsFrom (h.objs.size+1) r ((n,h.objs.size)::acc)).lookup z=some c→c=h.objs.size:=fun z e q=>by
    rw [(cl z).2 (by rw [hnot z e];simp),e] at q
    simp [List.lookup_cons] at q
    exact q.symm
   have tail:∀ z,z≠n→List.lookup z ((n,k)::r)=some .cell→(cellsFrom (h.objs.size+1) r ((n,h.objs.size)::acc)).lookup z=some c→h.objs.size+1≤c∧r.lookup z=some .cell:=fun z e q q2=>by
    have hb:(z==n)=false:=beq_eq_false_iff_ne.mpr e
    rw [List.lookup_cons,hb] at q
    obtain ⟨c',h1,h2,_⟩:=(cl z).1 q
    rw [q2] at h1;cases h1
    exact ⟨h2,q⟩
   by_cases e1:x=n <;> by_cases e2:y=n
   ·rw [e1,e2]
   ·have a:=head x e1 ex
    have b:=(tail y e2 hy ey).1
    exact absurd b (by rw [a];exact Nat.not_succ_le_self _)
   ·have a:=head y e2 ey
    have b:=(tail x e1 hx ex).1
    exact absurd b (by rw [a];exact Nat.not_succ_le_self _)
   ·exact ih (tail x e1 hx ex).2 (tail y e2 hy ey).2 ex ey
  ·rw [if_neg hk] at ex ey
   have nk:∀ z,List.lookup z ((n,k)::r)=some .cell→r.lookup z=some .cell:=fun z q=>by
    rw [List.lookup_cons] at q
    cases hb:z==n with
    | true=>rw [hb] at q;cases q;exact absurd rfl hk
    | false=>rw [hb] at q;exact q
   exact cells_inj r h acc x y c hn.2 (nk x hx) (nk y hy) ex ey
noncomputable def innerOf (elt:Expr) (gens:List Comprehension) (scope:Scope) (pos:Pos) (d:Nat) (acc:Value) (env:Env):Sem Unit :=
 match gens[d+1]? with
 | some g'=>do
  let x ← eval g'.iter env
  standAt g'.iter.pos
  let x ← foldedSetIterable g'.iter env x
  let it' ← holding [x] (pyIter x)
  let _ ← runOwn (.compStart (.ListComp elt gens scope pos) (d+1) it' acc env) env
  pure ()
 | none=>do let _ ← call (.builtin "list.append") [acc,← eval elt env]
theorem compTurn_at (elt target iter:Expr) (ifs:List Expr) (gens:List Comprehension) (scope:Scope) (pos:Pos) (d:Nat) (it acc:Value) (env:Env) (hg:gens[d]?=some ⟨target,iter,ifs,0⟩) (ha:∀ g',gens[d+1]?=some g'→g'.is_async=0) :
  compTurn (.ListComp elt gens scope pos) d it acc env=(do
   standAt iter.pos
   match ← pyNext it with
   | none=>pure (.done .next)
   | some v =>
    letOwnedTupleGo target it v
    assign target env v
    let mut ok:=true
    for c in ifs do
     if ok then ok ← isTrue c env (eval c env)
    if ok then innerOf elt gens scope pos d acc env
    again (.compLoop (.ListComp elt gens scope pos) d it acc env)):=by
 unfold compTurn
 dsimp only
 rw [hg]
 dsimp only
 unfold innerOf
 congr 1
 funext _
 simp only [bne_self_eq_false,Bool.false_eq_true,if_false]
 congr 1
 funext r
 cases r with
 | none=>rfl
 | some v =>
  dsimp only
  congr 1
  funext _
  congr 1
  funext _
  congr 1
  funext ok
  cases ok with
  | false=>rfl
  | true =>
   simp only [if_true]
   cases hq:gens[d+1]? with
   | none=>rfl
   | some g' =>
    have e:=ha g' hq
    obtain ⟨t',i',f',a'⟩:=g'
    have e:a'=0:=e
    subst e
    simp only [bne_self_eq_false,Bool.false_eq_true,if_false,bind_assoc,pure_bind]
section
variable {prog:Program} {w:World} {A:Around} {E:Value→Shared→Prop} {R:Result→Shared→Prop} {s:Shared}
noncomputable abbrev testsOf (env:Env) (ifs:List Expr):Sem Bool:=forIn ifs true fun c r=>if r=true then do let ok ← isTrue c env (eval c env);pure (ForInStep.yield ok) else pure (ForInStep.yield r)
theorem loop_at {elt target iter:Expr} {ifs:List Expr} {gens:List Comprehension} {scope:Scope} {pos:Pos} {d:Nat} {it acc:Value} {env:Env} (hg:gens[d]?=some ⟨target,iter,ifs,0⟩) (ha:∀ g',gens[d+1]?=some g'→g'.is_async=0) (I:Nat→Shared→Prop)
  (turn:∀ n s,I n s→wpAny (model prog w) A (pyNext it) (fun r s₁=>match r with
   | none=>R (.ok .next) s₁
   | some v=>wpAny (model prog w) A (letOwnedTupleGo target it v) (fun _ s₂=>wpAny (model prog w) A (assign target env v) (fun _ s₃ =>
     wpAny (model prog w) A (testsOf env ifs) (fun ok s₄ =>
      if ok=true then wpAny (model prog w) A (innerOf elt gens scope pos d acc env) (fun _ s₅=>∃ m,m < n∧I m s₅) (notedBy (model prog w) A env fun e s'=>R (.error e) s') s₄
      else ∃ m,m < n∧I m s₄) (notedBy (model prog w) A env fun e s'=>R (.error e) s') s₃) (notedBy (model prog w) A env fun e s'=>R (.error e) s') s₂) (notedBy (model prog w) A env fun e s'=>R (.error e) s') s₁) (notedBy (model prog w) A env fun e s'=>R (.error e) s') s)
  (n:Nat) (h:I n s):codeAny (model prog w) A (.compLoop (.ListComp elt gens scope pos) d it acc env) R s:=by
 refine codeAny_loop rfl I (fun n s hI=>?_) n h
 show wpAny _ A ((compTurn (.ListComp elt gens scope pos) d it acc env).onRaise (fun x=>do noteFrame x env;theTreesLotGoes x)) _ _ s
 refine wpAny_noted ?_
 rw [compTurn_at elt target iter ifs gens scope pos d it acc env hg ha]
 refine wpAny_bind (wpAny_standAt (wpAny_bind (wpAny_mono (turn n s hI) (fun r s₁ h₁=>?_) fun _ _ h'=>h')))
 cases r with
 | none=>exact wpAny_pure h₁
 | some v =>
  refine wpAny_bind (wpAny_mono h₁ (fun _ s₂ h₂=>wpAny_bind (wpAny_mono h₂ (fun _ s₃ h₃=>wpAny_bind (wpAny_mono h₃ (fun ok s₄ h₄=>?_) fun _ _ h'=>h')) fun _ _ h'=>h')) fun _ _ h'=>h')
  cases ok with
  | false=>exact wpAny_pure ⟨rfl,h₄⟩
  | true=>exact wpAny_bind (wpAny_mono h₄ (fun _ s₅ h₅=>wpAny_pure ⟨rfl,h₅⟩) fun _ _ h'=>h')
theorem start_at {elt target iter:Expr} {ifs:List Expr} {gens:List Comprehension} {scope:Scope} {pos:Pos} {d:Nat} {it acc:Value} {env:Env} (hg:gens[d]?=some ⟨target,iter,ifs,0⟩)
  (h0:codeAny (model prog w) A (.compLoop (.ListComp elt gens scope pos) d it acc env) R s)
  (h:∀ E,wpAny (model prog w) A (pyIter it) (fun it' s'=>codeAny (model prog w) A (.compLoop (.ListComp elt gens scope pos) d it' acc env) R s') E s) :
  codeAny (model prog w) A (.compStart (.ListComp elt gens scope pos) d it acc env) R s:=by
 refine codeAny_of_tree ?_
 show wpAny _ _ ((compStart (.ListComp elt gens scope pos) d it acc env).onRaise (fun x=>do noteFrame x env;standAt theWindowsPlace)) _ _ s
 refine wpAny_notedAt ?_
 have e:compStart (.ListComp elt gens scope pos) d it acc env=(do
   if (← ask).params.followText "comprehension-iter-twice" then return ← again (.compLoop (.ListComp elt gens scope pos) d it acc env)
   rule "comprehension.iter-twice"
   standAt iter.pos
   again (.compLoop (.ListComp elt gens scope pos) d (← pyIter it) acc env)):=by
  have hc:clausesOf (.ListComp elt gens scope pos)=gens:=rfl
  unfold compStart
  simp only [hc,hg]
  rfl
 rw [e]
 refine wpAny_bind (wpAny_askSetting (wpAny_ite ?_))
 split
 ·first
   | exact wpAny_bind (wpAny_pure (wpAny_pure (And.intro rfl h0)))
   | exact wpAny_pure (And.intro rfl h0)
 ·exact wpAny_bind (wpAny_rule (wpAny_bind (wpAny_standAt (wpAny_bind (wpAny_mono (h _) (fun it' s' h'=>wpAny_pure (And.intro rfl h')) fun _ _ x=>x)))))
end
end
section
noncomputable def Acc (g:Gd) (c:Cx) (w:Wo) (D:Addr) (l:List AV):Prop:=(Free w D∧NotFr g c D)∧∃ items,Sq "list" w.h D items∧VRL g w.k l items
section
variable {g:Gd} {c:Cx} {fm fm':Fm} {w w1:Wo} {H H' H1 H2:Hp} {a b v:AV} {l out xs:List AV} {x xa xb:Value} {y t it elt:MX} {vs:List AV} {tk p:Nat} {o:Ops} {n i d:Nat} {D:Addr} {O O':Addr→Prop} {allg gs ifs:List MX} {E:Value→Shared→Prop} {sc:Sc}
theorem Acc.at_ (h:Acc g c w D l):∃ o,w.h D=some o:=h.2.elim fun _ q=>q.1.elim fun _ e=>⟨_,e⟩
theorem Acc.up (h:Acc g c w D l) (x:Ex O w w1) (n:¬ O D):Acc g c w1 D l:=⟨⟨h.at_.elim fun o e=>x.free e h.1.1,h.1.2⟩,h.2.elim fun items q=>⟨items,q.1.elim fun m e=>⟨m,x.keep h.1.1.2 n e⟩,LR.up q.2 x.u⟩⟩
theorem Acc.own (h:Acc g c w D l):¬ Own g c D:=fun q=>q.elim h.1.2.1 fun ⟨i,q1,q2⟩=>h.1.2.2 (i:=i) (congrArg (fun o=>ob o vkOf) q1) q2 rfl
theorem Ex.less (x:Ex O w w1) (h:∀ b,O b→O' b∨w.h b=none):Ex O' w w1:=⟨x.sh,x.ex,fun n1 n2 e=>x.keep n1 (fun z=>(h _ z).elim n2 fun q=>nos (q.symm.trans e)) e,x.u,x.nf,x.nφ⟩
noncomputable abbrev OD (g:Gd) (c:Cx) (D:Addr) (b:Addr):Prop:=Own g c b∨b=D
noncomputable abbrev lcE (g:Gd) (elt:MX) (allg:List MX) (sc:Sc) (p:Nat):Expr:=.ListComp (untr g.N elt) (untrG g.N allg) (scUn g.N sc) (pz p)
noncomputable def RestOK (g:Gd) (o:Ops) (c:Cx) (elt:MX) (allg:List MX) (p:Nat) (D:Addr) (d:Nat) (gs:List MX):Prop:=∀ {fm H xs H' w l Q E},compGens g.st.I o elt gs fm H=some (xs,H')→In g c fm w H→Acc g c w D l→l.length+xs.length≤1000000 →
 (∀ w',Ex (OD g c D) w w'→In g c fm w' H'→Acc g c w' D (l++xs)→Q () w'.s)→wpAny (model g.st.prog g.st.w) c.A (innerOf (untr g.N elt) (untrG g.N allg) (scUn g.N c.sc) (pz p) d (.ref D) c.env) Q E w.s
noncomputable def LoopOK (g:Gd) (o:Ops) (c:Cx) (elt:MX) (allg:List MX) (p:Nat) (D:Addr) (d:Nat) (t:MX) (ifs gs:List MX):Prop:=∀ {vs fm H out H' w0 w J X l} {O:Addr→Prop} {RR:Result→Shared→Prop},compIt o.cd (compGens g.st.I o elt gs) t ifs fm vs H=some (out,H')→Ex O w0 w→(∀ b,X b→w0.h b=none)→(∀ b,OD g c D b→O b) →
 (∀ b,X b→NotFr g c b∧b≠D)→In g c fm w H→IterOK g c t X w vs J→Acc g c w D l→l.length+out.length≤1000000→(∀ w',Ex O w0 w'→KLe w.k w'.k→(∀ b o,Free w b→¬ OD g c D b→¬ X b→w.h b=some o→w'.h b=some o)→In g c fm w' H'→Acc g c w' D (l++out)→RR (.ok .next) w'.s) →
 codeAny (model g.st.prog g.st.w) c.A (.compLoop (lcE g elt allg c.sc p) d (.ref J) (.ref D) c.env) RR w.s
theorem untrG_get (N:Nat→Str) (l:List MX):∀ d:Nat,(untrG N l)[d]?=(l[d]?).map (untrC N):=by
 induction l with
 | nil=>exact fun _=>rfl
 | cons x r ih=>exact fun d=>by cases d with
  | zero=>rfl
  | succ d=>exact ih d
theorem untrG_sync (N:Nat→Str) (l:List MX) (d:Nat) (g':Comprehension) (e:(untrG N l)[d]?=some g'):g'.is_async=0:=by
 rw [untrG_get] at e
 obtain ⟨x,_,rfl⟩:=Option.map_eq_some_iff.mp e
 cases x <;> rfl
theorem tests_stop {env:Env} {Q:Bool→Shared→Prop} {M:Model} {A:Around} {s:Shared} (h:Q false s) (ifs:List Expr):wpAny M A (forIn ifs false fun c r=>if r=true then do let ok ← isTrue c env (eval c env);pure (ForInStep.yield ok) else pure (ForInStep.yield r)) Q E s:=by
 induction ifs with
 | nil=>rw [List.forIn_nil];exact wpAny_pure h
 | cons c r ih =>
  rw [List.forIn_cons]
  exact wpAny_bind (wpAny_pure ih)
theorem tests_ok (hc:CdS g o.cd) {ifs:List MX}:∀ {H b w} {Q:Bool→Shared→Prop},cds o.cd fm ifs H=some (b,H1)→In g c fm w H→PoB g c fm H1 b Q w→wpAny (model g.st.prog g.st.w) c.A (testsOf c.env (untrL g.N ifs)) Q E w.s:=by
 induction ifs with
 | nil =>
  exact fun {H b w Q} e I P=>pr_e e fun e1 e2=>by
   subst e1;subst e2
   show wpAny _ _ (forIn [] true _) _ _ _
   rw [List.forIn_nil]
   exact wpAny_pure (P w .rfl I)
 | cons x r ih =>
  exact fun {H b w Q} e I P=>by
   show wpAny _ _ (forIn (untr g.N x::untrL g.N r) true _) _ _ _
   rw [List.forIn_cons]
   refine wpAny_bind (wpAny_bind (hc.at_ (f:=fun b H=>cond b (cds o.cd fm r H) (some (false,H))) e I fun b H2 e w1 X I1=>wpAny_pure ?_))
   cases b with
   | true=>exact ih e I1 (P.nx X)
   | false =>
    exact pr_e e fun e1 e2=>by
     subst e1;subst e2
     exact tests_stop (P w1 X I1) _
theorem In.sub {fm1:Fm} (I:In g c fm1 w H) (hs:fm1.sc=fm.sc) (hd:fm1.dep=fm.dep) (hv:∀ j v,lookN fm.vars j=some v→lookN fm1.vars j=some v):In g c fm w H:=by
 obtain ⟨sc1,vars1,dep1⟩:=fm1
 obtain ⟨sc,vars,dep⟩:=fm
 have hs:sc1=sc:=hs
 have hd:dep1=dep:=hd
 subst hs;subst hd
 exact ⟨I.hs,I.st,I.R,I.Lf,I.cf,I.loc.elim fun m q=>⟨m,q.1,fun e h=>q.2 (hv _ _ e) h⟩,fun e h=>I.cel (hv _ _ e) h⟩
theorem look_fold {j:Nat} {v:AV} {is:List Nat}:∀ {xs:List AV} {vs:List (Nat×AV)},j∉is→lookN vs j=some v→lookN (putAll vs is xs) j=some v:=by
 induction is with
 | nil=>exact fun _ h=>h
 | cons i r ih =>
  exact fun {xs vs} hj h=>by
   cases xs with
   | nil=>exact h
   | cons x xs=>exact ih (fun q=>hj (List.mem_cons_of_mem _ q)) (by rw [lookN_put,if_neg fun (e:j=i)=>hj (by rw [e];exact List.mem_cons_self ..)];exact h)
theorem newT_keeps (hn:newT fm t=true) (e:asgT fm t v=some fm'):fm'.sc=fm.sc∧fm'.dep=fm.dep∧∀ j v,lookN fm.vars j=some v→lookN fm'.vars j=some v:=by
 have nv:∀ {t j u},newV fm t=true→asVar t=some j→lookN fm.vars j=some u→False:=fun {t j u} h e e'=>optB_e h fun i ei q=>by
  rw [e] at ei;rw [← Option.some.inj ei,e'] at q;exact nft q
 refine alt_e e (fun e=>ob_e e fun i ei e=>gb_e e fun _ e=>?_) fun e=>ob_e e fun ts et e=>ob_e e fun l _ e=>ob_e e fun us eu e=>?_
 ·rw [← Option.some.inj e]
  refine ⟨rfl,rfl,fun j u h=>(lookN_put v i j fm.vars).trans ?_⟩
  rw [if_neg fun q=>?_];exact h
  rcases (Bool.or_eq_true ..).mp hn with hn | hn
  ·exact nv hn ei (q ▸ h)
  ·refine optB_e hn fun ts et _=>?_
   obtain ⟨p,rfl⟩:=asVar_eq ei
   exact nos et
 ·rw [← Option.some.inj e]
  refine ⟨rfl,rfl,fun j u h=>?_⟩
  obtain ⟨is,h1,_,_,h4⟩:=asgNames_r eu
  show lookN us j=some u
  rw [h4]
  refine look_fold (fun q=>?_) h
  rcases (Bool.or_eq_true ..).mp hn with hn | hn
  ·refine optB_e hn fun i ei _=>?_
   obtain ⟨p,rfl⟩:=asVar_eq ei
   exact nos et
  ·refine optB_e hn fun ts' et' hn=>?_
   rw [et] at et'
   rw [← Option.some.inj et'] at hn
   have key:∀ {ts:List MX} {is:List Nat},VarL ts is→ts.all (newV fm)=true→j∈is→False:=fun {ts}=>by
    induction ts with
    | nil=>exact fun h _ q=>by rw [show _=[] from h] at q;exact nomatch q
    | cons t ts ih =>
     exact fun hh ha q=>and_e ha fun h1 h2=>by
      obtain ⟨i,us,rfl,e,hh⟩:=hh
      rcases List.mem_cons.mp q with q | q
      ·exact nv h1 (by rw [q];exact e) h
      ·exact ih hh h2 q
   exact key h1 hn q
theorem loop_of_rest (G:GdOK g) (hc:CdS g o.cd) (hd:allg[d]?=some (.gen t it ifs)) (hrest:RestOK g o c elt allg p D d gs):LoopOK g o c elt allg p D d t ifs gs:=fun {vs fm H out H' w0 w J X l O RR} e X0 hX hO hXn I hI hA hsz k=>by
 obtain ⟨fp,wr,Pt,Md,St,W,hSt,hfp,hwr,hXe,hSx,_,hitem⟩:=hI
 have hg:(untrG g.N allg)[d]?=some ⟨untr g.N t,untr g.N it,untrL g.N ifs,0⟩:=by rw [untrG_get,hd];rfl
 have DX:¬ X D:=fun q=>(hXn D q).2 rfl
 have nO:∀ {b},X b→¬ OD g c D b:=fun {b} h q=>q.elim (fun q=>q.elim (hXn b h).1.1 fun ⟨i,q1,q2⟩=>(hXn b h).1.2 (i:=i) (congrArg (fun o=>ob o vkOf) q1) q2 rfl) (hXn b h).2
 refine loop_at hg (untrG_sync g.N allg (d+1)) (I:=fun k s'=>∃ i w2 Hk l' out',s'=w2.s∧k=vs.length+1 - i∧i≤vs.length∧compIt o.cd (compGens g.st.I o elt gs) t ifs fm (vs.drop i) Hk=some (out',H')∧l'++out'=l++out∧Ex (fun b=>OD g c D b∨X b) w w2∧In g c fm w2 Hk∧Acc g c w2 D l'∧St i w2.s.heap) ?_ (vs.length+1)
  ⟨0,w,H,l,out,rfl,rfl,Nat.zero_le _,e,rfl,.rfl,I,hA,hSt⟩
 rintro kk s' ⟨i,w2,Hk,l',out',rfl,rfl,hi,ef,hlo,X2,I2,A2,st⟩
 have hlen:l'.length+out'.length=l.length+out.length:=by
  have:=congrArg List.length hlo
  rwa [List.length_append,List.length_append] at this
 have F2:∀ {b},X b→Free w2 b:=fun {b} h=>(hXe b h).2.elim fun o e=>X2.free e (hXe b h).1
 refine drop_r hi (fun e0 ed=>?_) fun a ea ed=>?_
 ·rw [ed] at ef
  rw [e0] at st
  refine pr_e ef fun e1' e2'=>?_
  subst e1';subst e2'
  rw [List.append_nil] at hlo
  refine W.done _ _ _ st fun h' tk hk=>?_
  have K:∀ b o,¬ X b→w2.h b=some o→h'.get? b=some o:=fun b o n e=>hk b o (fun z=>n (hwr b z)) e
  have X02:Ex O w0 w2:=(X0.own (X:=X) (X2.wk' fun b z=>z.imp (hO b) id) hX)
  have z:=k ⟨w2.k,{w2.s with heap:=h',toks:=tk}⟩ (X02.fin K hX) X2.u (fun b o F n1 n2 e=>K _ _ n2 (X2.keep F.2 (fun z=>z.elim n1 n2) e)) (I2.kp K (fun h=>(hXn _ h).1) F2)
  exact z ⟨A2.1,(hlo ▸ A2.2).elim fun items q=>⟨items,q.1.elim fun m e=>⟨m,K _ _ DX e⟩,q.2⟩⟩
 ·rw [ed] at ef
  refine gb_e (b:=newT fm t) (o:=ob (asgT fm t a) fun fm1=>ob2 (cds o.cd fm1 ifs Hk) fun b H=>cond b (ob2 (compGens g.st.I o elt gs fm1 H) fun xs H=>ob2 (compIt o.cd (compGens g.st.I o elt gs) t ifs fm (vs.drop (i+1)) H) fun ys H=>some (xs++ys,H)) (compIt o.cd (compGens g.st.I o elt gs) t ifs fm (vs.drop (i+1)) H)) ef fun hnt ef=>ob_e ef fun fm1 et ef=>ob2_e ef fun bb H2 eb ef=>?_
  obtain ⟨hs1,hd1,hv1⟩:=newT_keeps hnt et
  have hlt:=lt_of_get ea
  refine W.item i _ _ _ hlt st fun v h3 tk3 hM hk3=>W.go i v _ _ _ hM fun h4 hP st4 hk4=>?_
  have K:∀ b o,¬ X b→w2.h b=some o→h4.get? b=some o:=fun b o n e=>hk4 b o (fun z=>n (hwr b z)) (hk3 b o (fun z=>n (hwr b z)) e)
  have I4:In g c fm ⟨w2.k,{w2.s with heap:=h4,toks:=tk3}⟩ Hk:=I2.kp K (fun h=>(hXn _ h).1) F2
  have X4:Ex (fun b=>OD g c D b∨X b) w2 ⟨w2.k,{w2.s with heap:=h4,toks:=tk3}⟩:=⟨rfl,fun {b} e=>nn_none fun ⟨_,z⟩=>(Classical.em (X b)).elim (fun q=>hSx _ _ st4 b q e) fun q=>nos (e.symm.trans (K b _ q z)),fun _ n e=>K _ _ (fun z=>n (.inr z)) e,.rfl,.inl,.inl⟩
  have A4:Acc g c ⟨w2.k,{w2.s with heap:=h4,toks:=tk3}⟩ D l':=⟨A2.1,A2.2.elim fun items q=>⟨items,q.1.elim fun m e=>⟨m,K _ _ DX e⟩,q.2⟩⟩
  have F4:∀ {b},X b→Free ⟨w2.k,{w2.s with heap:=h4,toks:=tk3}⟩ b:=F2
  have fin:∀ {w5 fm' Hk' l5 out5},Ex (OD g c D) ⟨w2.k,{w2.s with heap:=h4,toks:=tk3}⟩ w5→In g c fm' w5 Hk'→In g c fm w5 Hk'→Acc g c w5 D l5→compIt o.cd (compGens g.st.I o elt gs) t ifs fm (vs.drop (i+1)) Hk'=some (out5,H')→l5++out5=l++out →
    ∃ m,m < vs.length+1 - i∧∃ i w2 Hk l' out',w5.s=w2.s∧m=vs.length+1 - i∧i≤vs.length∧compIt o.cd (compGens g.st.I o elt gs) t ifs fm (vs.drop i) Hk=some (out',H')∧l'++out'=l++out∧Ex (fun b=>OD g c D b∨X b) w w2∧In g c fm w2 Hk∧Acc g c w2 D l'∧St i w2.s.heap:=fun {w5 fm' Hk' l5 out5} X5 _ I5 A5 e5 hl5 =>
   ⟨vs.length+1 - (i+1),by omega,i+1,w5,Hk',l5,out5,rfl,rfl,hlt,e5,hl5,(X2.trans X4).trans (X5.wk' fun _ z=>.inl z),I5,A5,W.frame _ _ _ st4 fun b hb o e=>by
    rcases hfp b hb with z | ⟨o',z⟩
    ·exact X5.keep (F4 z).2 (nO z) e
    ·exact (I5.R.fr (X5.u.f (X2.u.f z))).trans ((I4.R.fr (X2.u.f z)).symm.trans e)⟩
  refine asg_at G et I4 (hitem i v w2.k h4 a X2.u hP ea) fun w5 X5 I5=>tests_ok hc eb I5 fun w6 X6 I6=>?_
  have A6:=(A4.up X5 A4.own).up X6 A4.own
  have X56:Ex (OD g c D) _ w6:=(X5.trans X6).wk' fun _ z=>.inl z
  cases bb with
  | true =>
   replace ef:ob2 (compGens g.st.I o elt gs fm1 H2) (fun xs H=>ob2 (compIt o.cd (compGens g.st.I o elt gs) t ifs fm (vs.drop (i+1)) H) fun ys H=>some (xs++ys,H))=some (out',H'):=ef
   refine ob2_e ef fun xs H3 er ef=>ob2_e ef fun ys H5 ec ef=>pr_e ef fun e1 e2=>?_
   subst e1;subst e2
   exact hrest er I6 A6 (by rw [List.length_append] at hlen;omega) fun w7 X7 I7 A7=>fin (X56.trans X7) I7 (I7.sub hs1 hd1 hv1) A7 ec (by rw [List.append_assoc];exact hlo)
  | false=>exact fin X56 I6 (I6.sub hs1 hd1 hv1) A6 ef hlo
theorem rest_nil (he:EvS g o.ev) (hd:allg[d+1]?=none):RestOK g o c elt allg p D d []:=fun {fm H xs H' w l Q E} e I A hsz k=>by
 unfold innerOf
 rw [untrG_get,hd]
 replace e:ob2 (o.ev fm elt H) (fun v H=>some ([v],H))=some (xs,H'):=e
 refine ob2_e e fun v H1 e1 e=>pr_e e fun e2 e3=>?_
 subst e2;subst e3
 refine wpAny_bind (he (c:={c with E:=E}) e1 (I.e E) fun w1 x X I1 r=>?_)
 have I1:=I1.e c.E
 have A1:=A.up X A.own
 obtain ⟨items,⟨n,hl⟩,rl⟩:=A1.2
 have hz:items.toArray.size≤sizeLine:=by
  rw [List.size_toArray,rl.len,sizeLine_eq]
  have:l.length+[v].length≤1000000:=hsz
  simp at this;omega
 refine wpAny_bind (wpAny_list_append_plain ⟨n,hl⟩ (fun h' hl' hs=>wpAny_pure ?_) hz)
 obtain ⟨n',e'⟩:=hl'
 obtain ⟨X2,I2⟩:=I1.poke (tk:=w1.s.toks) A1.1.1 A1.1.2 hs ⟨_,e'⟩
 refine k ⟨w1.k,{w1.s with heap:=h',toks:=w1.s.toks}⟩ ((X.wk' fun _ z=>.inl z).trans (X2.wk' fun _ z=>.inr z)) I2 ⟨A1.1,items++[x],⟨n',?_⟩,rl.app (.one r)⟩
 rw [show sqO "list" (items++[x]) n'=_ from rfl]
 exact e'.trans (by simp [sqO])
theorem mark_none (A:Around):A.mark none=A:=by cases A;rfl
theorem rest_cons (G:GdOK g) (hc:CdS g o.cd) (hit:ItemsS g o) (hd:allg[d+1]?=some (.gen t it ifs)) (hrest:RestOK g o c elt allg p D (d+1) gs):RestOK g o c elt allg p D d (.gen t it ifs::gs):=fun {fm H xs H' w l Q E} e I A hsz k=>by
 have hg:(untrG g.N allg)[d+1]?=some ⟨untr g.N t,untr g.N it,untrL g.N ifs,0⟩:=by rw [untrG_get,hd];rfl
 unfold innerOf
 rw [hg]
 dsimp only
 replace e:ob2 (items g.st.I o fm t it H) (fun vs H=>compIt o.cd (compGens g.st.I o elt gs) t ifs fm vs H)=some (xs,H'):=e
 refine ob2_e e fun vs H1 e1 e=>?_
 have hloop:LoopOK g o c elt allg p D (d+1) t ifs gs:=loop_of_rest (p:=p) G hc hd hrest
 have h0:Wp g {c with E:=E} (eval (untr g.N it) c.env) (fun xv s₁=>wpAny (model g.st.prog g.st.w) c.A (pyIter xv) (fun it' s₂=>wpAny (model g.st.prog g.st.w) c.A (runOwn (.compStart (lcE g elt allg c.sc p) (d+1) it' (.ref D) c.env) c.env) (fun _ s₃=>Q () s₃) E s₂) E s₁) w:=by
  refine hit (c:={c with E:=E}) e1 (I.e E) fun w1 J X X1 I1 hX hI=>?_
  have I1:=I1.e c.E
  have A1:=A.up X1 A.own
  have DX:¬ X D:=fun q=>A.at_.elim fun _ e=>nos ((hX D q).symm.trans e)
  refine wpAny_runOwn ?_
  rw [mark_none]
  have go:=hloop (RR:=fun r s'=>match r with | .ok f=>Q () s' | .error e=>cameBackBy (model g.st.prog g.st.w) c.A c.env E e s') e (X1.wk' (O':=OD g c D) fun _ z=>.inl z) hX (fun _ z=>z) (fun b h=>⟨I.nw (hX b h),fun q=>DX (q ▸ h)⟩) I1 hI A1 hsz fun w2 X2 _ _ I2 A2=>k w2 X2 I2 A2
  exact start_at hg go fun E'=>by
   obtain ⟨fp,wr,Pt,Md,St,W,hSt,_,_,_,_,hself,_⟩:=hI
   exact hself 0 w1.s _ E' hSt go
 refine wpAny_bind (wpAny_mono h0 (fun xv s₁ h₁=>wpAny_bind (wpAny_standAt (wpAny_bind ?_))) fun _ _ x=>x)
 refine wpAny_of_eq (fold_untr g.N c.env it xv) ?_
 exact wpAny_bind (wpAny_holding (wpAny_mono h₁ (fun it' s₂ h₂=>wpAny_bind (wpAny_mono h₂ (fun _ s₃ h₃=>wpAny_pure h₃) fun _ _ x=>x)) fun _ _ x=>x))
theorem asGen_eq {q:MX×MX×List MX} (e:asGen y=some q):y=.gen q.1 q.2.1 q.2.2:=by
 cases y with
 | gen a b c=>exact congrArg (fun q:MX×MX×List MX=>MX.gen q.1 q.2.1 q.2.2) (Option.some.inj e)
 | _=>exact nos e
theorem rest_all (G:GdOK g) (he:EvS g o.ev) (hc:CdS g o.cd) (hit:ItemsS g o) {gs:List MX}:∀ {d:Nat},allg.drop (d+1)=gs→RestOK g o c elt allg p D d gs:=by
 induction gs with
 | nil=>exact fun {d} hd=>rest_nil he (by rw [← List.head?_drop,hd];rfl)
 | cons x gs ih =>
  intro d hd fm H xs H' w l Q E e
  have hx:allg[d+1]?=some x:=by rw [← List.head?_drop,hd];rfl
  have hr:allg.drop (d+1+1)=gs:=by rw [← List.tail_drop,hd];rfl
  refine ob3_e (o:=asGen x) (f:=fun t it ifs=>ob2 (items g.st.I o fm t it H) fun vs H=>compIt o.cd (compGens g.st.I o elt gs) t ifs fm vs H) e fun t it ifs eg _=>?_
  rw [asGen_eq eg] at hx e
  exact rest_cons G hc hit hx (ih hr) e
end
end
section
noncomputable def compE (g:Gd) (env:Env) (sc:Sc) (n:Nat):Env :=
 {scope:=relabel (scUn g.N sc) env,locals:=n,globals:=env.globals,cells:=cellsFrom (n+1) (sc.map fun x=>(g.N x.1,x.2)) (closL g.N env sc []),qual:=env.qual,func:=none,code:=env.code,frame:=env.frame,builtins:=env.builtins}
noncomputable abbrev cX (g:Gd) (c:Cx) (sc:Sc) (n:Nat):Cx:={sc:=sc,env:=compE g c.env sc n,A:=c.A,E:=c.E}
section
variable {g:Gd} {c:Cx} {fm fm':Fm} {w w1:Wo} {H H' H1 H2:Hp} {a b v:AV} {l out xs:List AV} {x xa xb:Value} {y t it elt:MX} {vs:List AV} {tk p:Nat} {o:Ops} {n i d:Nat} {D:Addr} {O O':Addr→Prop} {allg gs ifs gens:List MX} {E:Value→Shared→Prop} {sc:Sc} {h':Heap} {Q:Value→Shared→Prop}
theorem ce2 (q:kindOfI sc i=some .ce):lookN sc i=some .cell∨lookN sc i=some .free:=ob_e q fun k e h=>by
 rw [e];cases k with
 | cell=>exact .inl rfl
 | free=>exact .inr rfl
 | «local»=>exact VK.noConfusion (Option.some.inj h)
 | globalExplicit=>exact nos h
 | globalImplicit=>exact VK.noConfusion (Option.some.inj h)
theorem lo1 (q:kindOfI sc i=some .lo):lookN sc i=some .local:=ob_e q fun k e h=>by
 rw [e];cases k with
 | «local»=>rfl
 | cell=>exact VK.noConfusion (Option.some.inj h)
 | free=>exact VK.noConfusion (Option.some.inj h)
 | globalExplicit=>exact nos h
 | globalImplicit=>exact VK.noConfusion (Option.some.inj h)
theorem gl1 (q:isGl sc i=true):lookN sc i=some .globalImplicit:=optB_e q fun v e h=>ob_e e fun k e h'=>by
 rw [e];cases k with
 | globalImplicit=>rfl
 | globalExplicit=>exact nos h'
 | «local»=>rw [← Option.some.inj h'] at h;exact nft h
 | cell=>rw [← Option.some.inj h'] at h;exact nft h
 | free=>rw [← Option.some.inj h'] at h;exact nft h
theorem names_nodup (G:GdOK g) (hn:(sc.map (·.1)).Nodup):((sc.map fun x=>(g.N x.1,x.2)).map (·.1)).Nodup:=by
 rw [List.map_map,show ((fun x:Str×NameKind=>x.1)∘fun x:Nat×NameKind=>(g.N x.1,x.2))=g.N∘(·.1) from rfl,← List.map_map,List.nodup_iff_pairwise_ne,List.pairwise_map]
 exact (List.nodup_iff_pairwise_ne.mp hn).imp fun h e=>h (G.inj e)
theorem comp_frame (G:GdOK g) (hd:distN (sc.map (·.1))=true) (hf:freeOK fm.sc sc=true) (I:In g c fm w H) (hh:h'=pushCells (w.s.heap.push {cls:=.type "dict",data:=.dict #[]}) (sc.map fun x=>(g.N x.1,x.2))) :
  (∀ b o,w.s.heap.get? b=some o→h'.get? b=some o)∧In g (cX g c sc w.s.heap.objs.size) {sc:=sc,vars:=freeVars sc fm.vars,dep:=fm.dep} ⟨w.k,{w.s with heap:=h',toks:=tk}⟩ H∧(∀ b,Own g (cX g c sc w.s.heap.objs.size) b→w.h b=none)∧∀ b,w.h b≠none→(∀ {j a},kindOfI fm.sc j=some .ce→c.env.cells.lookup (g.N j)=some a→a≠b)→NotFr g (cX g c sc w.s.heap.objs.size) b:=by
 have nd:=distN_nodup hd
 have nn:=names_nodup G nd
 have Gr:∀ b o,w.s.heap.get? b=some o→h'.get? b=some o:=fun b o e=>by rw [hh];exact pushCells_keeps _ _ b o (Heap.get?_push_of_some _ e)
 have cl:=cells_look (sc.map fun x=>(g.N x.1,x.2)) (w.s.heap.push {cls:=.type "dict",data:=.dict #[]}) (closL g.N c.env sc [])
 rw [Heap.size_push,← hh] at cl
 have look:∀ {i},lookN sc i=some .cell→∃ a,(compE g c.env sc w.s.heap.objs.size).cells.lookup (g.N i)=some a∧w.s.heap.objs.size+1≤a∧h'.IsCell a none:=fun {i} q=>(cl (g.N i) nn).1 ((lookup_scUn g.N G.inj i sc).trans q)
 have ceF:∀ {i},lookN sc i=some .free→kindOfI fm.sc i=some .ce:=fun q=>freeOK_of hf (lookN_mem q)
 have lookF:∀ {i},lookN sc i=some .free→(compE g c.env sc w.s.heap.objs.size).cells.lookup (g.N i)=c.env.cells.lookup (g.N i):=fun {i} q =>
  ((cl (g.N i) nn).2 (by rw [lookup_scUn g.N G.inj i sc,q];exact nofun)).trans ((closL_look g.N G.inj c.env i sc [] nd).1 q (I.st.nce (ceF q)).2)
 have fresh:∀ {a},w.s.heap.objs.size≤a→w.h a=none:=fun h=>Heap.get?_none_of_le h
 have kk:∀ {i},(compE g c.env sc w.s.heap.objs.size).kindOf (g.N i)=(lookN sc i).map fun k=>if (k==.free&&c.env.scope.kind==.function&&c.env.kindOf (g.N i)==some .cell)=true then NameKind.cell else k:=fun {i}=>by
  show (relabel (scUn g.N sc) c.env).names.lookup (g.N i)=_
  rw [relabel_lookup]
  exact congrArg (Option.map _) (lookup_scUn g.N G.inj i sc)
 have ns:h'.Ns w.s.heap.objs.size (fun _=>none):=by
  rw [hh];exact (Heap.Ns.new w.s.heap (.type "dict")).keeps (pushCells_keeps _ _)
 have R:=(I.gr (tk:=tk) Gr).R
 refine ⟨Gr,⟨rfl,⟨rfl,I.st.glob,I.st.bui,fun {i} q=>by rw [kk,lo1 q];rfl,fun {i} q=>?_,fun {i} q=>by rw [kk,gl1 q];rfl,fun {i} q=>by rw [kk,(show lookN sc i=some .cell from q)];rfl,fun {i j a} qi qj ei ej=>?_,I.st.hd,I.st.dp,I.st.un⟩,R,I.new (size_none _),fun {i a} q e=>?_,⟨_,ns,fun {i v} e q=>?_⟩,fun {i v} e q=>?_⟩,fun b q=>?_,fun b hb hc=>⟨fun q=>hb (by rw [q];exact size_none _),fun {i a} q e z=>?_⟩⟩
 ·rcases ce2 q with h | h
  ·obtain ⟨a,e,_⟩:=look h
   exact ⟨.inl (by rw [kk,h];rfl),a,e⟩
  ·obtain ⟨_,a,e⟩:=I.st.nce (ceF h)
   refine ⟨?_,a,(lookF h).trans e⟩
   rw [kk,h]
   by_cases z:(NameKind.free==.free&&c.env.scope.kind==.function&&c.env.kindOf (g.N i)==some .cell)=true
   ·exact .inl (by rw [Option.map_some,if_pos z])
   ·exact .inr (by rw [Option.map_some,if_neg z])
 ·have old:∀ {i},lookN sc i=some .free→(compE g c.env sc w.s.heap.objs.size).cells.lookup (g.N i)=some a→w.h a≠none:=fun h e=>by
   rw [lookF h] at e
   obtain ⟨_,_,o,_,e,_⟩:=I.cf (ceF h) e
   exact ne_of e
  have new:∀ {i},lookN sc i=some .cell→(compE g c.env sc w.s.heap.objs.size).cells.lookup (g.N i)=some a→w.h a=none:=fun h e=>by
   obtain ⟨a',e',hc,_⟩:=look h
   rw [e] at e';rw [Option.some.inj e'];exact fresh (Nat.le_of_succ_le hc)
  rcases ce2 qi with hi | hi <;> rcases ce2 qj with hj | hj
  ·have z:=cells_inj (sc.map fun x=>(g.N x.1,x.2)) (w.s.heap.push {cls:=.type "dict",data:=.dict #[]}) (closL g.N c.env sc []) (g.N i) (g.N j) a nn ((lookup_scUn g.N G.inj i sc).trans hi) ((lookup_scUn g.N G.inj j sc).trans hj)
   rw [Heap.size_push] at z
   exact G.inj (z ei ej)
  ·exact absurd (new hi ei) (old hj ej)
  ·exact absurd (new hj ej) (old hi ei)
  ·exact I.st.inj (ceF hi) (ceF hj) ((lookF hi).symm.trans ei) ((lookF hj).symm.trans ej)
 ·rcases ce2 q with h | h
  ·obtain ⟨a',e',hc,ob,ho,hdat⟩:=look h
   rw [e] at e'
   rw [Option.some.inj e']
   exact ⟨Nat.ne_of_gt hc,I.new (fresh (Nat.le_of_succ_le hc)),ob,_,ho,hdat⟩
  ·rw [lookF h] at e
   obtain ⟨n1,n2,ob,x,ho,hdat⟩:=I.cf (ceF h) e
   exact ⟨fun z=>by rw [show a=w.s.heap.objs.size from z] at ho;exact nos ((size_none _).symm.trans ho),n2,ob,x,Gr _ _ ho,hdat⟩
 ·have z:=(freeVars_look e).2
  rw [lo1 q] at z;exact NameKind.noConfusion (Option.some.inj z)
 ·obtain ⟨e1,e2⟩:=freeVars_look e
  obtain ⟨a,ob,x,e3,ho,hx,r⟩:=I.cel e1 (ceF e2)
  exact ⟨a,ob,x,(lookF e2).trans e3,Gr _ _ ho,hx,r⟩
 ·rcases q with q | ⟨i,q,e⟩
  ·rw [q];exact size_none _
  ·obtain ⟨a',e',ha,_⟩:=look q
   rw [show (compE g c.env sc w.s.heap.objs.size).cells.lookup (g.N i)=some b from e] at e'
   rw [Option.some.inj e'];exact fresh (Nat.le_of_succ_le ha)
 ·rcases ce2 q with h | h
  ·obtain ⟨a',e',ha,_⟩:=look h
   rw [e] at e';rw [← z,Option.some.inj e'] at hb;exact hb (fresh (Nat.le_of_succ_le ha))
  ·rw [lookF h] at e;exact hc (ceF h) e z
theorem IterOK.move {c':Cx} {X:Addr→Prop} {J:Addr} (h:IterOK g c t X w vs J) (hA:c'.A=c.A) (Gr:∀ b o,w.s.heap.get? b=some o→h'.get? b=some o):IterOK g c' t X ⟨w.k,{w.s with heap:=h',toks:=tk}⟩ vs J:=by
 obtain ⟨fp,wr,Pt,Md,St,W,hSt,hfp,hwr,hXe,hSx,hself,hitem⟩:=h
 exact ⟨fp,wr,Pt,Md,St,hA ▸ W,W.frame _ _ _ hSt fun b _ o e=>Gr b o e,hfp,hwr,fun b hb=>⟨(hXe b hb).1,(hXe b hb).2.elim fun o e=>⟨o,Gr b o e⟩⟩,hSx,hA ▸ hself,hitem⟩
noncomputable def CEnd (g:Gd) (c:Cx) (fm:Fm) (w:Wo) (H':Hp) (out:List AV) (w':Wo) (D C:Addr):Prop:=Ex (Own g c) w w'∧In g c fm w' H'∧(Free w' D∧w.h D=none)∧(Free w' C∧w.h C=none)∧C≠D∧(∃ m,w'.s.heap.Ns C m)∧∃ items,Sq "list" w'.h D items∧VRL g w'.k out items
theorem comp_core (G:GdOK g) (he:EvS g o.ev) (hc:CdS g o.cd) (hit:ItemsS g o) {pos:Pos} {use:Option (Value→Sem Unit)} (e:compV g.st.I o fm elt gens sc H=some (out,H')) (I:In g c fm w H)
  (k:∀ w' D C,CEnd g c fm w H' out w' D C→compPost (model g.st.prog g.st.w) c.A c.E use Q (.ref D) C (.ok .next) w'.s) :
  Wp g c (comprehension (lcE g elt gens sc p) (scUn g.N sc) c.env pos (newList []) false (firstIter (untrG g.N gens) c.env) use) Q w:=by
 cases gens with
 | nil=>exact nos e
 | cons gx gs =>
 replace e:ob3 (asGen gx) (fun t it ifs=>gb (distN (sc.map (fun x:Nat×NameKind=>x.1))&&freeOK fm.sc sc) (ob2 (items g.st.I o fm t it H) fun vs H=>ob2 (compIt o.cd (compGens g.st.I o elt gs) t ifs {sc:=sc,vars:=freeVars sc fm.vars,dep:=fm.dep} vs H) fun out H=>gb (le out.length 1000000) (some (out,H))))=some (out,H'):=e
 refine ob3_e e fun t it ifs eg e=>gb_e e fun hk e=>and_e hk fun hd hf=>ob2_e e fun vs H1 e1 e=>ob2_e e fun out' H2 e2 e=>gb_e e fun hz e=>pr_e e fun e3 e4=>?_
 have eg:=asGen_eq eg
 subst eg;subst e3;subst e4
 have hclos:closureFor (scUn g.N sc) c.env=pure (closL g.N c.env sc []):=closure_scUn g.N c.env sc fun i hi=>(I.st.nce (freeOK_of hf hi)).2
 have hnames:∀ x∈(scUn g.N sc).names,x.2=.local→(scUn g.N sc).names.lookup x.1=some .local:=fun x hx hl=>by
  obtain ⟨⟨i,kd⟩,hy,rfl⟩:=List.mem_map.mp hx
  have hl:kd=.local:=hl
  subst hl
  exact (lookup_scUn g.N G.inj i sc).trans (lookN_of_mem (distN_nodup hd) hy)
 refine wpAny_comprehension_free (g:=untrC g.N (.gen t it ifs)) (gs:=untrG g.N gs) rfl (fold_untr g.N c.env it) hclos rfl hnames ?_
 show wpAny (model g.st.prog g.st.w) c.A (eval (untr g.N it) c.env) _ c.E w.s
 refine hit e1 I fun w1 J X X1 I1 hX hI=>?_
 have hD0:=size_none w1.s.heap
 have G1:=push_gr w1.s.heap (sqO "list" [] 0)
 have hDl:(w1.s.heap.push (sqO "list" [] 0)).get? w1.s.heap.objs.size=some (sqO "list" [] 0):=push_at _ rfl
 refine wpAny_newList (newEnv_comp ?_) (Nat.zero_le _)
 have I2:In g c fm ⟨w1.k,{w1.s with heap:=w1.s.heap.push (sqO "list" [] 0),toks:=w1.s.toks}⟩ H1:=I1.gr G1
 obtain ⟨G2,Ic,hown,hnf⟩:=comp_frame (tk:=w1.s.toks) G hd hf I2 rfl
 have G3:∀ b o,w1.s.heap.get? b=some o→_:=fun b o e=>G2 b o (G1 b o e)
 have s1:∀ {b},w1.h b=none→w.h b=none:=fun q=>X1.ex q
 have s2:∀ {b},(w1.s.heap.push (sqO "list" [] 0)).get? b=none→w1.h b=none:=fun {b} q=>nn_none fun ⟨_,z⟩=>nos (q.symm.trans (G1 _ _ z))
 have C0:w1.h (w1.s.heap.push (sqO "list" [] 0)).objs.size=none:=s2 (size_none _)
 have CD:(w1.s.heap.push (sqO "list" [] 0)).objs.size≠w1.s.heap.objs.size:=fun q=>nos ((q ▸ size_none (w1.s.heap.push (sqO "list" [] 0))).symm.trans hDl)
 have cf:∀ {j a},kindOfI fm.sc j=some .ce→c.env.cells.lookup (g.N j)=some a→a≠w1.s.heap.objs.size:=fun h1 h2=>(I1.nw hD0).2 (I1.hs ▸ h1) h2
 have A0:Acc g (cX g c sc (w1.s.heap.push (sqO "list" [] 0)).objs.size) ⟨w1.k,{w1.s with heap:=pushCells ((w1.s.heap.push (sqO "list" [] 0)).push {cls:=.type "dict",data:=.dict #[]}) (sc.map fun x=>(g.N x.1,x.2)),toks:=w1.s.toks}⟩ w1.s.heap.objs.size [] :=
  ⟨⟨I1.new hD0,hnf _ (ne_of hDl) cf⟩,[],⟨0,G2 _ _ hDl⟩,rfl⟩
 have hI4:=hI.move (c':=cX g c sc (w1.s.heap.push (sqO "list" [] 0)).objs.size) (tk:=w1.s.toks) rfl G3
 have hloop:LoopOK g o (cX g c sc (w1.s.heap.push (sqO "list" [] 0)).objs.size) elt (.gen t it ifs::gs) p w1.s.heap.objs.size 0 t ifs gs:=by
  have hrest:RestOK g o (cX g c sc (w1.s.heap.push (sqO "list" [] 0)).objs.size) elt (.gen t it ifs::gs) p w1.s.heap.objs.size 0 gs:=rest_all (allg:=.gen t it ifs::gs) (gs:=gs) (d:=0) G he hc hit rfl
  have z:=@loop_of_rest g (cX g c sc (w1.s.heap.push (sqO "list" [] 0)).objs.size) t it elt p o 0 w1.s.heap.objs.size (.gen t it ifs::gs) gs ifs G hc rfl hrest
  exact @z
 have hXe:∀ b,X b→∃ o,w1.h b=some o:=fun b hb=>by obtain ⟨_,_,_,_,_,_,_,_,_,hXe,_⟩:=hI;exact (hXe b hb).2
 have go:=hloop (w0:=w) (O:=fun b=>Own g c b∨w.h b=none) (RR:=compPost (model g.st.prog g.st.w) c.A c.E use Q (.ref w1.s.heap.objs.size) (w1.s.heap.push (sqO "list" [] 0)).objs.size) e2 ((X1.wk' fun _ z=>.inl z).trans (Ex.gr (tk:=w1.s.toks) G3).wk) hX
  (fun b z=>.inr (z.elim (fun z=>s1 (s2 (hown b z))) fun z=>z ▸ s1 hD0)) (fun b hb=>⟨hnf b ((hXe b hb).elim fun o e=>ne_of (G1 _ _ e)) (fun h1 h2=>(I.nw (hX b hb)).2 (I.hs ▸ h1) h2),fun q=>(hXe b hb).elim fun o e=>nos ((q ▸ hD0).symm.trans e)⟩) Ic hI4 A0 (by simpa using Nat.le_of_ble_eq_true hz) fun w' X' u' Kp I' A'=>?_
 ·refine start_at (target:=untr g.N t) (iter:=untr g.N it) (ifs:=untrL g.N ifs) rfl go fun E'=>?_
  obtain ⟨fp,wr,Pt,Md,St,W,hSt,_,_,_,_,hself,_⟩:=hI4
  exact hself 0 _ _ E' hSt go
 ·have X'':Ex (Own g c) w w':=X'.less fun _ z=>z
  have nO:∀ {b o},w.h b=some o→w1.h b=some o→¬ OD g (cX g c sc (w1.s.heap.push (sqO "list" [] 0)).objs.size) w1.s.heap.objs.size b:=fun e _ z=>nos ((z.elim (fun z=>s1 (s2 (hown _ z))) fun z=>z ▸ s1 hD0).symm.trans e)
  have kp:∀ {b o o'},w.h b=some o'→Free w1 b→w1.h b=some o→w'.h b=some o:=fun e0 F e=>Kp _ _ F (fun z=>nos ((z.elim (fun z=>s1 (s2 (hown _ z))) fun z=>z ▸ s1 hD0).symm.trans e0)) (fun z=>nos ((hX _ z).symm.trans e0)) (G3 _ _ e)
  obtain ⟨m,ns,hm⟩:=I.loc
  obtain ⟨oL,eL⟩:=Ns.get ns
  have I'':In g c fm w' H2:=by
   obtain ⟨m1,ns1,hm1⟩:=I1.loc
   refine ⟨I.hs,I.st,I'.R,X''.free eL I.Lf,fun h1 h2=>?_,⟨m1,Ns.at_ ns1 fun o e=>kp eL I1.Lf e,fun h1 h2=>(hm1 h1 h2).elim fun x q=>⟨x,q.1,q.2.up u'⟩⟩,fun h1 h2=>?_⟩
   ·obtain ⟨_,_,o0,_,e0,_⟩:=I.cf h1 h2
    obtain ⟨n1,n2,o,y,e,d⟩:=I1.cf h1 h2
    exact ⟨n1,X''.free e0 (I.cf h1 h2).2.1,o,y,kp e0 n2 e,d⟩
   ·obtain ⟨a,o,y,q,e,d,r⟩:=I1.cel h1 h2
    obtain ⟨_,_,o0,_,e0,_⟩:=I.cf h2 q
    exact ⟨a,o,y,q,kp e0 (I1.cf h2 q).2.1 e,d,r.up u'⟩
  exact k w' _ _ ⟨X'',I'',⟨A'.1.1,s1 hD0⟩,⟨I'.Lf,s1 C0⟩,CD,I'.loc.elim fun m q=>⟨m,q.1⟩,A'.2⟩
theorem firstAsync_untr (N:Nat→Str) (gens:List MX):firstAsync (untrG N gens)=false:=by
 cases gens with
 | nil=>rfl
 | cons x r=>cases x <;> rfl
theorem comp_ok (G:GdOK g) (he:EvS g o.ev) (hc:CdS g o.cd) (hit:ItemsS g o):CompS g o:=fun {c fm elt gens sc H l H' w Q p} e I P=>by
 show Wp g c (eval (lcE g elt gens sc p) c.env) Q w
 unfold Wp
 rw [arm_eval_ListComp]
 dsimp only
 rw [firstAsync_untr]
 refine comp_core G he hc hit e I fun w' D C ce=>?_
 obtain ⟨X,I',⟨FD,D0⟩,⟨FC,C0⟩,CD,⟨m,hm⟩,items,⟨n,hl⟩,rl⟩:=ce
 refine ⟨m,hm,fun h'' hs=>?_⟩
 have K:∀ b o,¬ b=C→w'.h b=some o→h''.get? b=some o:=fun b o n e=>(hs.2 b n).trans e
 exact P ⟨w'.k,{w'.s with heap:=h'',toks:=w'.s.toks}⟩ D items (X.fin (X:=(·=C)) K fun b z=>z ▸ C0) (I'.kp (X:=(·=C)) K (fun z=>z ▸ I.nw C0) fun z=>z ▸ FC) ⟨n,K _ _ CD.symm hl⟩ rl FD D0
theorem asg_comp (G:GdOK g) (he:EvS g o.ev) (hc:CdS g o.cd) (hit:ItemsS g o) {loc:Bool} {cp tp:Nat} {H'':Hp} {Q:Flow→Shared→Prop} (e:compV g.st.I o fm elt gens sc H=some (l,H')) (ep:putRes loc (.newl l) H'=some (v,H''))
  (hst:stores fm.sc i=true) (hsw:swapsWith (lcE g elt gens sc cp) (some (.Name (g.N i) (pz tp))) (pz p).line c.env=pure true) (I:In g c fm w H) (P:PoS g c H'' .next {fm with vars:=putN fm.vars i v} Q w) :
  Wp g c (exec (.Assign [.Name (g.N i) (pz tp)] (lcE g elt gens sc cp) (pz p)) c.env) Q w:=by
 unfold Wp
 rw [exec_Assign_Name_used _ _ _ _ hsw]
 refine wpAny_bind (wpAny_standAt (wpAny_bind ?_))
 rw [arm_evalThenUse_ListComp]
 dsimp only
 rw [firstAsync_untr]
 refine wpAny_bind (wpAny_mono (comp_core (use:=some (assign (.Name (g.N i) (pz tp)) c.env)) (Q:=fun _ s'=>Q .next s') G he hc hit e I fun w' D C ce=>?_) (fun _ s' hq=>wpAny_pure (wpAny_pure hq)) fun _ _ x=>x)
 obtain ⟨X,I',⟨FD,D0⟩,⟨FC,C0⟩,CD,⟨m,hm⟩,items,hl,rl⟩:=ce
 have fin:∀ {w1:Wo},w1.s=w'.s→Ex (Own g c) w w1→In g c fm w1 H''→Free w1 C→VR g w1.k v (.ref D)→wpAny (model g.st.prog g.st.w) c.A (assign (.Name (g.N i) (pz tp)) c.env (.ref D)) (fun _ s'=>∃ m,s'.heap.Ns C m∧∀ h'',Heap.SameBut C s'.heap h''→Q .next {s' with heap:=h''}) c.E w'.s:=fun {w1} es Z I1 F r=>by
  rw [← es] at hm ⊢
  refine wpAny_assign_Name (store_ok G hst I1 r fun w2 Y I2=>⟨m,Ns.at_ hm fun o e=>Y.keep F.2 (I.no C0) e,fun h'' hs=>?_⟩)
  have K:∀ b o,¬ b=C→w2.h b=some o→h''.get? b=some o:=fun b o n e=>(hs.2 b n).trans e
  obtain ⟨oC,eC⟩:=Ns.get hm
  exact P ⟨w2.k,{w2.s with heap:=h'',toks:=w2.s.toks}⟩ _ ((Z.trans Y).fin (X:=(·=C)) K fun b z=>z ▸ C0) rfl (I2.kp (X:=(·=C)) K (fun z=>z ▸ I.nw C0) fun z=>z ▸ Y.free eC F)
 obtain ⟨n,hl⟩:=hl
 cases loc with
 | false =>
  exact ob_e (o:=allDat l) ep fun ds ed q=>pr_e q fun e1 e2=>by
   subst e1;subst e2
   exact fin (w1:=⟨w'.k.frz D _,w'.s⟩) rfl (X.frz FD D0) (I'.kn (I'.R.frz FD hl) (frz_le FD.1) (fun _ n F=>F.frz n) (I.nw D0)) (FC.frz CD) (lst_mk ⟨n,frz_at⟩ (allDat_eq ed ▸ LR.up rl (frz_le FD.1)))
 | true =>
  exact pr_e ep fun e1 e2=>by
   subst e1;subst e2
   exact fin (w1:=⟨w'.k.adp H'.length D,w'.s⟩) rfl (X.adp I'.R.top D0) (I'.kn (I'.R.adp FD hl ⟨items,n,rfl,LR.up rl (adp_le I'.R.top)⟩) (adp_le I'.R.top) (fun _ n F=>F.adp n) (I.nw D0)) (FC.adp CD) ⟨D,adp_at,rfl⟩
theorem pure_tf {b c:Bool} (h:(pure b:Sem Bool)=pure c):b=c:=by
 injection h
theorem swaps_not {e:MX} (h:notComp e=true) (t:Option Expr) (ht:t≠none) (line:Nat) (env:Env):swapsWith (untr g.N e) t line env=pure false:=by
 cases e with
 | comp=>exact nft h
 | mk y=>cases y <;> first | exact nft h | rfl
 | _=>rfl
theorem asgC_ok [OpqE] (G:GdOK g) (he:EvS g o.ev) (hc:CdS g o.cd) (hit:ItemsS g o):AsgC g (evStep g.st.I g.C o):=fun {c fm e H v H' i tp p w Q} q hst hsw I P=>by
 have no:notComp e=true→Wp g c (exec (.Assign [.Name (g.N i) (pz tp)] (untr g.N e) (pz p)) c.env) Q w:=fun h=>by
  rw [swaps_not h (some (.Name (g.N i) (pz tp))) (Option.some_ne_none _)] at hsw
  exact absurd (pure_tf hsw) (by decide)
 have mk:∀ {loc:Bool} {elt:MX} {gens:List MX} {sc:Sc} {cp:Nat},swapsWith (lcE g elt gens sc cp) (some (.Name (g.N i) (pz tp))) (pz p).line c.env=pure true→evMaker g.st.I g.C o fm loc (.comp elt gens sc cp) H=some (v,H') →
   Wp g c (exec (.Assign [.Name (g.N i) (pz tp)] (lcE g elt gens sc cp) (pz p)) c.env) Q w:=fun {loc elt gens sc cp} hsw q=>by
  replace q:ob2 (ob2 (compV g.st.I o fm elt gens sc H) fun vs H=>some (Res.newl vs,H)) (putRes loc)=some (v,H'):=q
  exact ob2_e q fun r H1 e1 ep=>ob2_e e1 fun l H2 e9 e=>pr_e e fun e2 e3=>by
   subst e2;subst e3
   exact asg_comp G he hc hit e9 ep hst hsw I P
 cases e with
 | comp elt gens sc cp=>exact mk (loc:=false) hsw q
 | mk x =>
  cases x with
  | comp elt gens sc cp=>exact mk (loc:=true) hsw q
  | mk y=>exact nos q
  | _=>exact no rfl
 | _=>exact no rfl
end
end
section
structure FnOK (g:Gd) (k:Nat) (fi:FnI):Prop where
 obj:∃ mr oc od osl name qual params dV kV doc pm an cdv ct,g.st.K.lookup (g.st.fnA k)=some ⟨oc,od,.func (fnX name qual params (untrSs g.N fi.body) (scM g.N fi.sc mr) [] dV kV doc pm an cdv ct),osl⟩∧codeIn g.st.K cdv qual=true ∧
  ∀ (s:Shared) {k:Kn} {vs bs rvs},(∀ b o,g.st.G0.get? b=some o→s.heap.get? b=some o)→(∀ {b o},g.st.G0.get? b=some o→k.f b=some o)→bindP fi.ps fi.dfl vs=some bs→VRL g k vs rvs →
   ∃ rbs,VRL g k (bs.map (·.2)) rbs∧BindsTo s (fnX name qual params (untrSs g.N fi.body) (scM g.N fi.sc mr) [] dV kV doc pm an cdv ct) ⟨rvs,[]⟩ ((fi.ps.map g.N).zip rbs)
 nd:distN (fi.sc.map (·.1))=true
 nofree:∀ i,lookN fi.sc i≠some .free
 prm:∀ p∈fi.ps,lookN fi.sc p=some .local∨lookN fi.sc p=some .cell
 pnd:fi.ps.Nodup
theorem bindP_ids {ps:List Nat}:∀ {ds:List DV} {vs:List AV} {bs:List (Nat×AV)},bindP ps ds vs=some bs→bs.map (·.1)=ps:=by
 induction ps with
 | nil=>exact fun {ds vs bs} e=>gb_e e fun _ e=>by rw [← Option.some.inj e];rfl
 | cons p ps ih =>
  exact fun {ds vs bs} e=>by
   cases vs with
   | nil =>
    replace e:(List.rec none (fun d ds _=>ob (bindP ps ds []) fun r=>some ((p,.dat d)::r)) (dropTo ds (ps.length+1)):Option (List (Nat×AV)))=some bs:=e
    cases q:dropTo ds (ps.length+1) with
    | nil=>rw [q] at e;exact nos e
    | cons d ds'=>rw [q] at e;exact ob_e e fun r er e=>by rw [← Option.some.inj e];exact congrArg (List.cons p) (ih er)
   | cons v vs=>exact ob_e (o:=bindP ps ds vs) e fun r er e=>by rw [← Option.some.inj e];exact congrArg (List.cons p) (ih er)
theorem bindL_other {kindOf:Str→Option NameKind} {n:Str}:∀ {binds:List (Str×Value)} {m:Str→Option Value},(∀ v,(n,v)∉binds)→bindL kindOf binds m n=m n
 | [],m,_=>rfl
 | (n',v')::r,m,h=>by
  unfold bindL
  rw [bindL_other fun v q=>h v (List.mem_cons_of_mem _ q)]
  have:n≠n':=fun e=>h v' (by rw [e];exact List.mem_cons_self ..)
  split
  ·simp [this]
  ·rfl
theorem bindL_at {kindOf:Str→Option NameKind} {n:Str} {v:Value} (hk:kindOf n=some .local):∀ {binds:List (Str×Value)} {m:Str→Option Value},(binds.map (·.1)).Nodup→(n,v)∈binds→bindL kindOf binds m n=some v
 | (n',v')::r,m,hn,h=>by
  rw [List.map_cons,List.nodup_cons] at hn
  unfold bindL
  rcases List.mem_cons.mp h with e | h
  ·cases e
   rw [if_pos hk,bindL_other fun v q=>hn.1 (List.mem_map_of_mem (f:=(·.1)) q)]
   simp
  ·exact bindL_at hk hn.2 h
theorem bindC_other {kindOf:Str→Option NameKind} {n:Str}:∀ {binds:List (Str×Value)} {m:Str→Option Value},(∀ v,(n,v)∉binds)→bindC kindOf binds m n=m n
 | [],m,_=>rfl
 | (n',v')::r,m,h=>by
  unfold bindC
  rw [bindC_other fun v q=>h v (List.mem_cons_of_mem _ q)]
  have:n≠n':=fun e=>h v' (by rw [e];exact List.mem_cons_self ..)
  split
  ·rfl
  ·simp [this]
theorem bindC_at {kindOf:Str→Option NameKind} {n:Str} {v:Value} (hk:kindOf n≠some .local):∀ {binds:List (Str×Value)} {m:Str→Option Value},(binds.map (·.1)).Nodup→(n,v)∈binds→bindC kindOf binds m n=some v
 | (n',v')::r,m,hn,h=>by
  rw [List.map_cons,List.nodup_cons] at hn
  unfold bindC
  rcases List.mem_cons.mp h with e | h
  ·cases e
   rw [if_neg hk,bindC_other fun v q=>hn.1 (List.mem_map_of_mem (f:=(·.1)) q)]
   simp
  ·exact bindC_at hk hn.2 h
noncomputable abbrev fnE (g:Gd) (sc:Sc) (mr:List (Str×Const)) (L:Addr) (qual:Str) (a:Addr) (cdv:Value):Env:=newEnv (scM g.N sc mr) L mainGlobals (cellsFrom (L+1) (scM g.N sc mr).names []) (qual ++ ".<locals>.") (some a) cdv none builtinsNs
section
variable {g:Gd} {c:Cx} {fm fm':Fm} {w w1:Wo} {H H' H1 H2:Hp} {a b v:AV} {l out xs:List AV} {x xa xb:Value} {vs:List AV} {tk p dep:Nat} {o:Ops} {n i d k:Nat} {O O':Addr→Prop} {E:Value→Shared→Prop} {sc:Sc} {h':Heap} {A:Around} {rvs:List Value}
theorem binds_look {k:Kn} {bs:List (Nat×AV)}:∀ {rbs:List Value},VRL g k (bs.map (·.2)) rbs→lookN bs i=some v→∃ x,(g.N i,x)∈((bs.map (·.1)).map g.N).zip rbs∧VR g k v x:=by
 induction bs with
 | nil=>exact fun _ e=>nos e
 | cons q bs ih =>
  intro rbs r e
  obtain ⟨x,us,rfl,h,r⟩:=r
  rw [show q=(q.1,q.2) from rfl,lookN_cons] at e
  by_cases z:q.1=i
  ·rw [if_pos z] at e
   exact ⟨x,List.mem_cons.mpr (.inl (congrArg (fun j=>(g.N j,x)) z.symm)),Option.some.inj e ▸ h⟩
  ·rw [if_neg z] at e
   obtain ⟨y,h1,h2⟩:=ih r e
   exact ⟨y,List.mem_cons_of_mem _ h1,h2⟩
theorem fn_frame (G:GdOK g) {mr:List (Str×Const)} {ps:List Nat} {bs:List (Nat×AV)} {rbs:List Value} {qual:Str} {a:Addr} {cdv:Value} (nd:distN (sc.map (·.1))=true) (nofree:∀ i,lookN sc i≠some .free) (pnd:ps.Nodup) (hids:bs.map (·.1)=ps)
  (R:Rep g w H) (rb:VRL g w.k (bs.map (·.2)) rbs) (hh:A.handled=none) (hd:A.depth+4 * dep+10≤recursionLimit) (hu:A.units+16 * dep+200≤cLine)
  (X:InCallC w.s (fnE g sc mr w.s.heap.objs.size qual a cdv).locals (bindL (fnE g sc mr w.s.heap.objs.size qual a cdv).kindOf ((ps.map g.N).zip rbs) fun _=>none) (fnE g sc mr w.s.heap.objs.size qual a cdv).cells (bindC (fnE g sc mr w.s.heap.objs.size qual a cdv).kindOf ((ps.map g.N).zip rbs) fun _=>none) ⟨h',w.s.gens,w.s.drawn,tk,w.s.os⟩) :
  (∀ b o,w.s.heap.get? b=some o→h'.get? b=some o)∧(∀ b,Own g ⟨sc,fnE g sc mr w.s.heap.objs.size qual a cdv,A,E⟩ b→w.h b=none)∧In g ⟨sc,fnE g sc mr w.s.heap.objs.size qual a cdv,A,E⟩ {sc:=sc,vars:=bs,dep:=dep} ⟨w.k,{w.s with heap:=h',toks:=tk}⟩ H:=by
 have nd':=distN_nodup nd
 have nn:=names_nodup G nd'
 have Gr:∀ b o,w.s.heap.get? b=some o→h'.get? b=some o:=X.toInCall.keep
 have hlen:rbs.length=ps.length:=by rw [rb.len,List.length_map,← hids,List.length_map]
 have bnd:(((ps.map g.N).zip rbs).map (·.1)).Nodup:=by
  rw [List.map_fst_zip (by rw [List.length_map];exact Nat.le_of_eq hlen.symm),List.nodup_iff_pairwise_ne,List.pairwise_map]
  exact (List.nodup_iff_pairwise_ne.mp pnd).imp fun h e=>h (G.inj e)
 have kk:∀ {i},(fnE g sc mr w.s.heap.objs.size qual a cdv).kindOf (g.N i)=lookN sc i:=fun {i}=>lookup_scUn g.N G.inj i sc
 have cl:=cells_look (sc.map fun x=>(g.N x.1,x.2)) (w.s.heap.push {cls:=.type "frame",data:=.dict #[]}) []
 rw [Heap.size_push] at cl
 have look:∀ {i},lookN sc i=some .cell→∃ a',(fnE g sc mr w.s.heap.objs.size qual a cdv).cells.lookup (g.N i)=some a'∧w.s.heap.objs.size+1≤a':=fun {i} q=>by
  obtain ⟨c,h1,h2,_⟩:=(cl (g.N i) nn).1 ((lookup_scUn g.N G.inj i sc).trans q)
  exact ⟨c,h1,h2⟩
 have cel:∀ {i},kindOfI sc i=some .ce→lookN sc i=some .cell:=fun {i} q=>(ce2 q).resolve_right (nofree i)
 have R':=R.mv (s':={w.s with heap:=h',toks:=tk}) fun _ _ _ e=>Gr _ _ e
 have out:∀ {i a'},lookN sc i=some .cell→(fnE g sc mr w.s.heap.objs.size qual a cdv).cells.lookup (g.N i)=some a'→w.s.heap.objs.size+1≤a'∧w.h a'=none:=fun h e=>by
  obtain ⟨a'',e',hc⟩:=look h
  rw [e] at e';rw [Option.some.inj e'];exact ⟨hc,Heap.get?_none_of_le (Nat.le_of_succ_le hc)⟩
 refine ⟨Gr,fun b q=>?_,⟨rfl,⟨rfl,rfl,rfl,fun q=>kk.trans (lo1 q),fun q=>?_,fun q=>kk.trans (gl1 q),fun q=>kk.trans q,fun {i j a'} qi qj ei ej=>?_,hh,hd,hu⟩,R',R.new (size_none _),fun {i a'} q e=>?_,⟨_,X.toInCall.ns,fun {i v} e q=>?_⟩,fun {i v} e q=>?_⟩⟩
 ·rcases q with q | ⟨i,q,e⟩
  ·rw [q];exact size_none _
  ·exact (out q e).2
 ·have h:=cel q
  obtain ⟨a',e,hc⟩:=look h
  exact ⟨.inl (kk.trans h),a',e⟩
 ·have z:=cells_inj (sc.map fun x=>(g.N x.1,x.2)) (w.s.heap.push {cls:=.type "frame",data:=.dict #[]}) [] (g.N i) (g.N j) a' nn ((lookup_scUn g.N G.inj i sc).trans (cel qi)) ((lookup_scUn g.N G.inj j sc).trans (cel qj))
  rw [Heap.size_push] at z
  exact G.inj (z ei ej)
 ·obtain ⟨o1,o2⟩:=out (cel q) e
  obtain ⟨ob,ho,hdat⟩:=X.cell _ _ e
  exact ⟨Nat.ne_of_gt o1,R.new o2,ob,_,ho,hdat⟩
 ·obtain ⟨x,h1,h2⟩:=binds_look rb e
  rw [hids] at h1
  exact ⟨x,bindL_at (kk.trans (lo1 q)) bnd h1,h2⟩
 ·obtain ⟨x,h1,h2⟩:=binds_look rb e
  rw [hids] at h1
  obtain ⟨a',ec,_⟩:=look (cel q)
  obtain ⟨ob,ho,hdat⟩:=X.cell _ _ ec
  rw [bindC_at (by rw [kk,cel q];exact nofun) bnd h1] at hdat
  exact ⟨a',ob,x,ec,ho,hdat,h2⟩
theorem fun_start (G:GdOK g) {fi:FnI} (K:FnOK g k fi) {bs:List (Nat×AV)} {R:Result→Shared→Prop} (hb:bindP fi.ps fi.dfl vs=some bs)
  (hh:A.handled=none) (hd:A.depth+4 * (dep+1)+10≤recursionLimit) (hu:A.units+16 * (dep+1)+200≤cLine) (Rp:Rep g w H) (rv:VRL g w.k vs rvs)
  (k':∀ {c:Cx} {w1:Wo} {Q:Flow→Shared→Prop},(∀ s,R (.ok (.ret .none)) s→Q .next s)→(∀ x s,R (.ok (.ret x)) s→Q (.ret x) s)→c.A.handled=none→c.A.depth=A.depth+1→c.A.units≤A.units+3→In g c {sc:=fi.sc,vars:=bs,dep:=dep} w1 H→Ex noO w w1→(∀ b,Own g c b→w.h b=none)→Wp g c (execs (untrSs g.N fi.body) c.env) Q w1) :
  codeAny (model g.st.prog g.st.w) A (.call (.ref (g.st.fnA k)) ⟨rvs,[]⟩) R w.s:=by
 obtain ⟨mr,oc,od,osl,name,qual,params,dV,kV,doc,pm,an,cdv,ct,hobj,hcode,hbind⟩:=K.obj
 obtain ⟨rbs,rb,hbt⟩:=hbind w.s Rp.gr Rp.G0 hb rv
 have X:g.st.K.In w.s.heap:=G.kin.keeps Rp.gr
 refine codeAny_call_function (by omega) (X _ _ hobj) rfl rfl rfl rfl (codeRec_of X hcode) (hbt _ _ _ _ ?_)
 have look:∀ i,(scM g.N fi.sc mr).names.lookup (g.N i)=lookN fi.sc i:=fun i=>lookup_scUn g.N G.inj i fi.sc
 refine wpAny_newFunctionEnv_cells rfl (fun x hx'=>?_) fun env' he s' x=>?_
 ·obtain ⟨y,hy⟩:=x
  have hm:=List.of_mem_zip hx'
  obtain ⟨i,hi,e⟩:=List.mem_map.mp hm.1
  have e:g.N i=y:=e
  subst e
  show (scM g.N fi.sc mr).names.lookup (g.N i)=_∨(scM g.N fi.sc mr).names.lookup (g.N i)=_∧_
  rw [look]
  rcases K.prm i hi with h | h
  ·exact .inl h
  ·exact .inr ⟨h,cellsFrom_some _ _ _ (.inl ((look i).trans h))⟩
 ·subst he
  refine ⟨(G.lim.keeps Rp.gr).keeps x.toInCall.keep,codeAny_func ?_⟩
  obtain ⟨h₁,tk₁,e₁⟩:=x.toInCall.same
  subst e₁
  have hd':A.depth+1+4 * dep+10≤recursionLimit:=by omega
  have hu':A.units+3+16 * dep+200≤cLine:=by omega
  obtain ⟨Gr,hown,I⟩:=fn_frame (A:=A.deeper (fnE g fi.sc mr w.s.heap.objs.size qual (g.st.fnA k) cdv)) (E:=_) (dep:=dep) G K.nd K.nofree K.pnd (bindP_ids hb) Rp rb hh hd' hu' x
  exact k' (w1:=⟨w.k,{w.s with heap:=h₁,toks:=tk₁}⟩) (fun _ h=>h) (fun _ _ h=>h) hh rfl (Nat.le_refl _) I (Ex.gr (tk:=tk₁) Gr) hown
theorem fun_core (G:GdOK g) (hx:ExS g o.ex) {fi:FnI} (K:FnOK g k fi) {bs:List (Nat×AV)} {R:Result→Shared→Prop} (hb:bindP fi.ps fi.dfl vs=some bs) (q:runB o fi bs dep H=some (v,H1))
  (hh:A.handled=none) (hd:A.depth+4 * (dep+1)+10≤recursionLimit) (hu:A.units+16 * (dep+1)+200≤cLine) (Rp:Rep g w H) (rv:VRL g w.k vs rvs)
  (k':∀ w' x,Ex noO w w'→Rep g w' H1→VR g w'.k v x→R (.ok (.ret x)) w'.s) :
  codeAny (model g.st.prog g.st.w) A (.call (.ref (g.st.fnA k)) ⟨rvs,[]⟩) R w.s:=ob3_e q fun fl fmR H2 qe e=>pr_e e fun e1 e2=>by
 subst e1;subst e2
 refine fun_start G K hb hh hd hu Rp rv fun q1 q2 _ _ _ I X0 hown=>exs_ok hx qe I fun w' f X' qf I'=>?_
 have X2:Ex noO w w':=(X0.wk.trans X').less fun b z=>.inr (hown b z)
 cases fl with
 | next=>rw [show f=.next from qf];exact q1 _ (k' w' .none X2 I'.R rfl)
 | ret u=>obtain ⟨y,rfl,r⟩:=qf;exact q2 _ _ (k' w' y X2 I'.R r)
theorem closed_mv (f:Addr→Option Obj) (φ φ':Nat→Option Addr) (D:Nat→DV) (st:St) (v:AV):∀ x,closedV v=true→V0 st ⟨f,φ⟩ (putV D v) x→V0 st ⟨f,φ'⟩ (putV D v) x :=
 AV.rec (motive_1:=fun v=>∀ x,closedV v=true→V0 st ⟨f,φ⟩ (putV D v) x→V0 st ⟨f,φ'⟩ (putV D v) x) (motive_2:=fun l=>∀ xs,(AV.rec_1 (motive_1:=fun _=>Bool) (fun _=>true) (fun _=>false) (fun _ _=>false) (fun _=>true) (fun _ _=>true) (fun _=>true) (fun _=>true) (fun _=>true) (fun _ q=>q) true true (fun _ _ a b=>cond a b false) l)=true→V0L st ⟨f,φ⟩ (putVL D l) xs→V0L st ⟨f,φ'⟩ (putVL D l) xs)
  (fun _ _ _ h=>h) (fun _ _ h=>nft h) (fun _ _ _ h=>nft h) (fun _ _ _ h=>h) (fun _ _ _ _ h=>h) (fun _ _ _ h=>h) (fun _ _ _ h=>h) (fun _ _ _ h=>h) (fun _ ih x h=>SqV.mono (fun e=>e) (fun vs=>ih vs h) x) (fun _ _ h=>h) (fun _ _ h=>h)
  (fun _ _ p q xs h=>cond_e h fun h1 h2=>consV.mono (fun v=>p v h1) (fun us=>q us h2) xs) v
theorem closed_up {k k':Kn} (hf:k'.f=k.f) (h:closedV v=true) (r:VR g k v x):VR g k' v x:=by
 obtain ⟨f,φ⟩:=k
 obtain ⟨f',φ'⟩:=k'
 have hf:f'=f:=hf
 subst hf
 exact closed_mv f' φ φ' g.D g.st v x h r
theorem closedL_up {k k':Kn} (hf:k'.f=k.f) (h:closedL vs=true) (r:VRL g k vs rvs):VRL g k' vs rvs:=by
 induction vs generalizing rvs with
 | nil=>exact r
 | cons v vs ih=>exact and_e h fun h1 h2=>r.c fun x us p r=>.cons (closed_up hf h1 p) (ih h2 r)
noncomputable abbrev isoW (w:Wo):Wo:=⟨⟨w.k.f,fun _=>none⟩,w.s⟩
theorem Rep.iso (R:Rep g w H):Rep g (isoW w) []:=⟨fun e=>nos e,fun e=>nos e,fun e=>nos e,fun e=>nos e,R.fr,R.G0,R.base⟩
theorem Rep.back {w':Wo} (R:Rep g w H) (X:Ex noO (isoW w) w') (R':Rep g w' H'):Rep g ⟨⟨w'.k.f,w.k.φ⟩,w'.s⟩ H∧Ex noO w ⟨⟨w'.k.f,w.k.φ⟩,w'.s⟩:=by
 have kp:∀ {b o},w.h b=some o→w'.h b=some o:=fun e=>X.keep (fun _ q=>nos q) id e
 have u:KLe w.k ⟨w'.k.f,w.k.φ⟩:=⟨X.u.f,fun e=>e⟩
 exact ⟨⟨fun e=>let ⟨a,ob,e1,e2,r⟩:=R.obj e;⟨a,ob,e1,kp e2,r.up u⟩,R.dom,R.inj,fun {n a} e=>nn_none fun ⟨o,q⟩=>(X.nf q).elim (fun z=>nos ((R.dj e).symm.trans z)) fun z=>(R.at_ e).elim fun o' e'=>nos (z.symm.trans e'),R'.fr,R'.G0,R'.base⟩,
  ⟨X.sh,X.ex,fun _ _ e=>kp e,u,X.nf,.inl⟩⟩
theorem In.dp' {A:Around} (I:In g c fm w H) (hh:A.handled=none) (hd:A.depth+4 * dep+10≤recursionLimit) (hu:A.units+16 * dep+200≤cLine):In g {c with A:=A} {fm with dep:=dep} w H :=
 ⟨I.hs,⟨I.st.kind,I.st.glob,I.st.bui,I.st.nlo,I.st.nce,I.st.ngl,I.st.own,I.st.inj,hh,hd,hu⟩,I.R,I.Lf,I.cf,I.loc,I.cel⟩
noncomputable def PoX (g:Gd) (c:Cx) (fm:Fm) (H:Hp) (v:AV) (Q:Value→Shared→Prop) (w:Wo):Prop:=∀ w' x,Ex noO w w'→In g c fm w' H→VR g w'.k v x→Q x w'.s
noncomputable def CallC (g:Gd) (call:Nat→AV→List AV→Hp→Option (AV×Hp)):Prop:=∀ {c fm f vs H v H' w R xf xs},call fm.dep f vs H=some (v,H')→In g c fm w H→VR g w.k f xf→VRL g w.k vs xs→PoX g c fm H' v (fun x s=>R (.ok (.ret x)) s) w→codeAny (model g.st.prog g.st.w) c.A (.call xf ⟨xs,[]⟩) R w.s
theorem CallC.toS {call:Nat→AV→List AV→Hp→Option (AV×Hp)} (h:CallC g call):CallS g call:=fun e I rf rv P=>wpAny_call (h e I rf rv fun w' x X=>P w' x X.wk)
noncomputable def CallG (g:Gd) (k d:Nat) (vs:List AV) (H:Hp) (v:AV) (H':Hp):Prop:=∀ {A:Around} {w:Wo} {R:Result→Shared→Prop} {xs},A.handled=none→A.depth+4 * (d+1)+10≤recursionLimit→A.units+16 * (d+1)+200≤cLine→Rep g w H→VRL g w.k vs xs →
 (∀ w' x,Ex noO w w'→Rep g w' H'→VR g w'.k v x→R (.ok (.ret x)) w'.s)→codeAny (model g.st.prog g.st.w) A (.call (.ref (g.st.fnA k)) ⟨xs,[]⟩) R w.s
noncomputable def ConS (g:Gd):Prop:=∀ {k d gg vs H v H'},g.C.con k=some (d,gg)→gg vs H=some (v,H')→CallG g k d vs H v H'
theorem run_callG (G:GdOK g) (hx:ExS g o.ex) {fi:FnI} (K:FnOK g k fi) {bs:List (Nat×AV)} (hb:bindP fi.ps fi.dfl vs=some bs) (q:runB o fi bs dep H=some (v,H1)):CallG g k dep vs H v H1:=fun hh hd hu Rp rv P=>fun_core G hx K hb q hh hd hu Rp rv P
theorem iso_callG {v':AV} (h:CallG g k dep vs [] v H1) (hcl:closedL vs=true) (ef:frozen v H1=some v'):CallG g k dep vs H v' H:=fun {A w R xs} hh hd hu Rp rv P=>by
 refine h (w:=isoW w) hh hd hu Rp.iso (closedL_up (k:=w.k) (k':=(isoW w).k) rfl hcl rv) fun w' x X R' r=>?_
 obtain ⟨R2,X2⟩:=Rp.back X R'
 refine alt_e ef (fun ef=>gb_e ef fun hc ef=>?_) fun ef=>ob_e ef fun n en ef=>ob_e ef fun l el ef=>ob_e ef fun ds ed ef=>?_
 ·rw [← Option.some.inj ef] at P
  exact P ⟨⟨w'.k.f,w.k.φ⟩,w'.s⟩ x X2 R2 (closed_up (k:=w'.k) (k':=⟨w'.k.f,w.k.φ⟩) rfl hc r)
 ·rw [← Option.some.inj ef] at P
  rw [locV_eq en] at r
  obtain ⟨a,ea,rfl⟩:=r
  refine R'.get (lO_eq el) ea fun ob eo h=>?_
  obtain ⟨us,m,rfl,hr⟩:=h
  have a0:w.h a=none:=(X.nφ ea).elim (fun z=>nos z) id
  have F:Free ⟨⟨w'.k.f,w.k.φ⟩,w'.s⟩ a:=⟨R'.dj ea,fun n q=>(Rp.at_ q).elim fun o e=>nos (a0.symm.trans e)⟩
  rw [allDat_eq ed] at hr
  have hr2:VRL g ⟨w'.k.f,w.k.φ⟩ (datL ds) us:=datL_of.mp (datL_of (k:=w'.k).mpr hr)
  exact P ⟨Kn.frz ⟨w'.k.f,w.k.φ⟩ a _,w'.s⟩ _ (X2.frz F a0) (R2.frz F eo) (lst_mk ⟨m,frz_at⟩ (LR.up hr2 (frz_le F.1)))
theorem callFn_ok (G:GdOK g) (hfn:∀ {k fi},g.C.fn k=some fi→FnOK g k fi) (hcon:ConS g) (hx:ExS g o.ex) (q:callFn g.C o dep k vs H=some (v,H')):∃ d,d≤dep∧CallG g k d vs H v H':=by
 unfold callFn at q
 cases ec:g.C.con k with
 | some p =>
  rw [ec] at q
  exact gb_e q fun hle q=>⟨p.1,Nat.le_of_ble_eq_true hle,hcon (gg:=p.2) ec q⟩
 | none =>
  rw [ec] at q
  refine ob_e (o:=g.C.fn k) q fun fi ef q=>ob_e q fun bs hb q=>?_
  cases hi:fi.iso with
  | true =>
   rw [hi] at q
   exact gb_e q fun hcl q=>ob2_e q fun u H1 e1 q=>ob_e q fun v' ev q=>pr_e q fun e2 e3=>by
    subst e2;subst e3
    exact ⟨dep,Nat.le_refl _,iso_callG (run_callG G hx (hfn ef) hb e1) hcl ev⟩
  | false =>
   rw [hi] at q
   exact ⟨dep,Nat.le_refl _,run_callG G hx (hfn ef) hb q⟩
theorem call_ok (G:GdOK g) (hfn:∀ {k fi},g.C.fn k=some fi→FnOK g k fi) (hcon:ConS g) (hx:ExS g o.ex) (hcall:CallC g o.call):CallC g (callStep g.C o):=fun {c fm f vs H v H' w R xf xs} q I rf rv P=>by
 cases ed:fm.dep with
 | zero=>rw [ed] at q;exact nos q
 | succ dep =>
  rw [ed] at q
  have hd:=I.st.dp
  have hu:=I.st.un
  rw [ed] at hd hu
  refine alt_e q (fun q=>ob_e q fun k ek q=>?_) fun q=>ob_e q fun cc ek q=>ob_e q fun ci ec q=>ob2_e q fun r H1 e1 q=>gb_e q fun hn q=>pr_e q fun e2 e3=>?_
  ·rw [fnV_eq ek] at rf
   rw [show xf=.ref (g.st.fnA k) from rf]
   obtain ⟨d,hle,h⟩:=callFn_ok G hfn hcon hx q
   exact h I.st.hd (by omega) (by omega) I.R rv fun w' x X R' r=>P w' x X (I.step X R') r
  ·subst e2;subst e3
   rw [clV_eq ek] at rf
   rw [show xf=.ref (g.st.clA cc) from rf]
   obtain ⟨m1,m2,m3⟩:=G.mak ec
   have X:=kIn G I
   obtain ⟨wk,h,gn,dr,tk,os⟩:=w
   refine make_core (init:=.ref (g.st.fnA ci.init)) (makes_of X m1) (looks_findIn X m2) (fun self=>bind_fn X self (beq_iff_eq.mp m3)) (.inl rfl) ?_
   have Gr:∀ b x,h.get? b=some x→((h.push emptyDict).push (instObj (g.st.clA cc) h.objs.size)).get? b=some x:=fun b x e=>push_gr _ _ _ _ (push_gr _ _ _ _ e)
   have hdx:((h.push emptyDict).push (instObj (g.st.clA cc) h.objs.size)).get? h.objs.size=some (PySem.W.dictOf [] 0):=Heap.get?_push_of_some _ (Heap.get?_push_size _ rfl)
   have hx':((h.push emptyDict).push (instObj (g.st.clA cc) h.objs.size)).get? (h.objs.size+1)=some (instObj (g.st.clA cc) h.objs.size):=by
    have:=Heap.get?_push_size (h.push emptyDict) (o:=instObj (g.st.clA cc) h.objs.size) rfl
    rwa [Heap.size_push] at this
   have a0:h.get? h.objs.size=none:=size_none h
   have b0:h.get? (h.objs.size+1)=none:=Heap.get?_none_of_le (Nat.le_succ _)
   have I1:In g c fm ⟨wk,⟨(h.push emptyDict).push (instObj (g.st.clA cc) h.objs.size),gn,dr,tk,os⟩⟩ H:=I.gr (tk:=tk) Gr
   have F1:Free ⟨wk,⟨(h.push emptyDict).push (instObj (g.st.clA cc) h.objs.size),gn,dr,tk,os⟩⟩ h.objs.size:=I.new a0
   have F2:Free ⟨wk,⟨(h.push emptyDict).push (instObj (g.st.clA cc) h.objs.size),gn,dr,tk,os⟩⟩ (h.objs.size+1):=I.new b0
   have X1:Ex noO ⟨wk,⟨h,gn,dr,tk,os⟩⟩ ⟨wk,⟨(h.push emptyDict).push (instObj (g.st.clA cc) h.objs.size),gn,dr,tk,os⟩⟩:=Ex.gr (w:=⟨wk,⟨h,gn,dr,tk,os⟩⟩) (tk:=tk) Gr
   have I2:=I1.kn (I1.R.adp (o:=.ns []) F1 hdx ⟨[],0,rfl,rfl⟩) (adp_le I1.R.top) (fun _ n F=>F.adp n) (I.nw a0)
   have X2:=X1.adp I1.R.top a0
   have F2':Free ⟨wk.adp H.length h.objs.size,⟨(h.push emptyDict).push (instObj (g.st.clA cc) h.objs.size),gn,dr,tk,os⟩⟩ (h.objs.size+1):=F2.adp (Nat.succ_ne_self _)
   have I3:=I2.kn (I2.R.frz F2' hx') (frz_le F2'.1) (fun _ n F=>F.frz n) (I.nw b0)
   have X3:=X2.frz (ob:=instObj (g.st.clA cc) h.objs.size) F2' b0
   have ri:VR g ((wk.adp H.length h.objs.size).frz (h.objs.size+1) (instObj (g.st.clA cc) h.objs.size)) (.inst cc H.length) (.ref (h.objs.size+1)):=⟨_,_,rfl,adp_at,frz_at⟩
   refine @hcall ⟨c.sc,c.env,c.A.under (.builtin "type.__call__" ⟨.ref (g.st.clA cc)::xs,[]⟩),c.E⟩ {fm with dep:=dep} (.fn ci.init) _ _ r H1 _ _ _ _ e1 (I3.dp' (A:=c.A.under (.builtin "type.__call__" ⟨.ref (g.st.clA cc)::xs,[]⟩)) I.st.hd (by show c.A.depth+1+4 * dep+10≤_;omega) (by show c.A.units+1+16 * dep+200≤_;omega)) rfl ⟨_,_,rfl,ri,LR.up rv X3.u⟩ fun w' x Y I' r'=>?_
   rw [noneV_r hn r']
   exact ⟨rfl,P w' _ (X3.trans Y) (by have z:=I'.dp' (A:=c.A) (dep:=fm.dep) I.st.hd I.st.dp I.st.un;exact z) (ri.up Y.u)⟩
theorem callD_ok (hcf:∀ {k},(g.C.con k).isSome=true→(g.C.fn k).isSome=true):CallD g (callStep g.C o):=fun {dep f vs H r} q=>by
 cases dep with
 | zero=>exact nos q
 | succ dep =>
  refine alt_e q (fun q=>ob_e q fun k ek q=>.inl ⟨k,fnV_eq ek,?_⟩) fun q=>ob_e q fun cc ek q=>ob_e q fun ci ec q=>.inr ⟨cc,clV_eq ek,by rw [ec];rfl⟩
  unfold callFn at q
  cases ec:g.C.con k with
  | some p=>exact hcf (by rw [ec];rfl)
  | none=>rw [ec] at q;exact ob_e (o:=g.C.fn k) q fun fi ef _=>by rw [ef];rfl
end
end
section
theorem beq_cases (a b:Nat):(Nat.beq a b=true∧a=b)∨(Nat.beq a b=false∧a≠b):=by
 cases q:Nat.beq a b with
 | true=>exact .inl ⟨rfl,Nat.eq_of_beq_eq_true q⟩
 | false=>exact .inr ⟨rfl,Nat.ne_of_beq_eq_false q⟩
theorem strLt_cps (a:List Nat):∀ b,ltCps a b=strLt a b:=by
 induction a with
 | nil=>exact fun b=>by cases b <;> rfl
 | cons a r ih =>
  exact fun b=>by
   cases b with
   | nil=>rfl
   | cons b t =>
    show (decide (a < b)||a==b&&ltCps r t)=cond (Nat.beq a b) (strLt r t) (Nat.blt a b)
    rw [ih t]
    have hb:decide (a < b)=Nat.blt a b:=Bool.eq_iff_iff.mpr (decide_eq_true_iff.trans ⟨fun h=>Nat.ble_eq_true_of_le h,Nat.le_of_ble_eq_true⟩)
    rw [hb]
    rcases beq_cases a b with ⟨h,e⟩ | ⟨h,e⟩
    ·subst e;rw [h,beq_self_eq_true]
     have:Nat.blt a a=false:=Bool.eq_false_iff.mpr fun q=>Nat.lt_irrefl a (Nat.le_of_ble_eq_true q)
     rw [this];rfl
    ·rw [h,beq_eq_false_iff_ne.mpr e];exact Bool.or_false _
theorem strLt_tri {a:List Nat}:∀ {b},strLt a b=false→strLt b a=false→a=b:=by
 induction a with
 | nil =>
  exact fun {b} h _=>by
   cases b with
   | nil=>rfl
   | cons=>exact nft h.symm
 | cons a r ih =>
  exact fun {b} h1 h2=>by
   cases b with
   | nil=>exact nft h2.symm
   | cons b t =>
    replace h1:cond (Nat.beq a b) (strLt r t) (Nat.blt a b)=false:=h1
    replace h2:cond (Nat.beq b a) (strLt t r) (Nat.blt b a)=false:=h2
    rcases beq_cases a b with ⟨h,e⟩ | ⟨h,e⟩
    ·subst e;rw [h] at h1 h2;rw [ih h1 h2]
    ·rw [h] at h1
     rw [(beq_cases b a).resolve_left (fun z=>e z.2.symm) |>.1] at h2
     exact absurd (Nat.le_antisymm (Nat.le_of_not_lt fun z=>nft (h2.symm.trans (Nat.ble_eq_true_of_le z))) (Nat.le_of_not_lt fun z=>nft (h1.symm.trans (Nat.ble_eq_true_of_le z)))) e
theorem perm_two {α:Type} {l:List α} {a b:α} (h:l.Perm [a,b]):l=[a,b]∨l=[b,a]:=by
 have:=h.length_eq
 cases l with
 | nil=>exact absurd this (Nat.succ_ne_zero _).symm
 | cons x l =>
  rcases List.mem_cons.mp (h.mem_iff.mp (List.mem_cons_self ..)) with e | e
  ·subst e;exact .inl (by rw [List.perm_singleton.mp ((List.perm_cons x).mp h)])
  ·have e:=List.mem_singleton.mp e
   subst e;exact .inr (by rw [List.perm_singleton.mp ((List.perm_cons x).mp (h.trans (List.Perm.swap ..)))])
section
variable {g:Gd} {c:Cx} {fm:Fm} {w w1:Wo} {H H':Hp} {a b v:AV} {l:List AV} {x xa xb:Value} {vs:List AV} {xs:List Value} {tk n:Nat} {Q:Value→Shared→Prop} {r:Res} {s t:List Nat} {d:Addr} {k:Kn} {h':Heap}
@[elab_as_elim] theorem v1_r {X:List Value→Prop} (e:v1 vs=some a) (r:VRL g k vs xs) (j:∀ x,VR g k a x→X [x]):X xs:=by
 rw [v1_eq e] at r
 exact r.c fun x us p q=>LR.n q (j x p)
theorem dict_r {P:Prop} {es:List (List Nat×AV)} (G:GdOK g) (e:dO H[n]?=some es) (I:In g c fm w H) (r:VR g w.k (.loc n) x) (k:∀ a ps,x=.ref a→(a==sysModules)=false→w.s.heap.DictOf (PySem.strKind g.st.prog g.st.w) a ps→LR (dcE g w.k) es ps→P):P :=
 dictAt_r (b:=.loc n) e I r fun a ob ps ex e0 eh hd r=>k a ps ex (G.sys e0) (hd _ _ eh) r
theorem lenB_e {m:Nat} {i:Int} (e:lenB m=some i):(m:Int)=i∧(m:Int) < 2 ^ 63:=gb_e e fun q e=>⟨Option.some.inj e,Int.lt_of_le_of_lt (Int.ofNat_le.mpr (Nat.le_of_ble_eq_true q)) (by decide)⟩
theorem vD_e {dd:DV} (e:vD dd=some r) (P:PoR g c fm H r Q w):Po g c fm H (.dat dd) Q w:=by rw [← Option.some.inj e] at P;exact P
theorem PoN.at_ (P:PoN g c fm H l Q w) (I:In g c fm w H) (G:∀ b o,w.s.heap.get? b=some o→h'.get? b=some o) (e:Sq "list" h'.get? d xs) (r:VRL g w.k l xs) (n:w.h d=none):Q (.ref d) {w.s with heap:=h',toks:=tk} :=
 P ⟨w.k,_⟩ d xs (Ex.gr G).wk (I.gr G) e r (I.new n) n
theorem sorted_two (hl:w.s.heap.IsList d [xa,xb].toArray) (ra:strR s xa) (rb:strR t xb) (I:In g c fm w H) (P:PoN g c fm H (cond (strLt t s) [.dat (.str t),.dat (.str s)] [.dat (.str s),.dat (.str t)]) Q w):Wp g c (call (.builtin "sorted") [.ref d]) Q w:=by
 obtain ⟨o1,ta,rfl⟩:=ra
 obtain ⟨o2,tb,rfl⟩:=rb
 refine sorted_strs hl (.cons (toS s) ta (.cons (toS t) tb .nil)) (Nat.le_of_ble_eq_true rfl) fun out ss' h1 h2 h3=>?_
 obtain ⟨e,he⟩:=sortedAll_at w.s.heap [.str (toS s) ta,.str (toS t) tb] out
 have two:∀ {p q:List Nat},strOK p=true→strOK q=true→StrsAre out.toList [toS p,toS q]→VRL g w.k [.dat (.str p),.dat (.str q)] out.toList:=by
  intro p q hp hq r
  generalize out.toList=l at r
  cases r with | cons _ t r =>
  cases r with | cons _ u r =>
  cases r
  exact .cons ⟨hp,t,rfl⟩ (.one ⟨hq,u,rfl⟩)
 have le:∀ {p q:List Nat},sortedS [toS p,toS q]=true→strLt q p=false:=by
  intro p q z
  unfold sortedS risingS at z
  rw [Bool.and_eq_true] at z
  rw [← strLt_cps];simpa using z.1
 refine P.at_ (tk:=w.s.toks) I (fun b o q=>sortedAll_old q) ⟨e,by rw [sqO,Array.toArray_toList];exact he⟩ ?_ (Heap.get?_none_of_le (Nat.le_succ _))
 rcases perm_two h2 with z | z
 ·subst z;rw [le h3];exact two o1 o2 h1
 ·subst z
  cases q:strLt t s with
  | true=>exact two o2 o1 h1
  | false =>
   have z:=strLt_tri q (le h3)
   subst z
   exact two o1 o1 h1
theorem sorted_empty (hs:(d==sysModules)=false) (hd:w.s.heap.DictOf (PySem.strKind g.st.prog g.st.w) d []) (I:In g c fm w H) (P:PoN g c fm H [] Q w):Wp g c (call (.builtin "sorted") [.ref d]) Q w:=by
 have hh:=I.st.hd
 obtain ⟨ep,hat⟩:=hd.dictAt
 refine call_function_entry kind_sorted plain_sorted entry_sorted (args_sorted1 _) ?_
 unfold Builtin.«sorted»
 refine wpAny_bind (m:=checkCount "sorted" 1 1 _) (wpAny_pure ?_)
 refine wpAny_bind (kdu_collect (A:=c.A.in1) (kdl_dict (knd:=PySem.strKind g.st.prog g.st.w) (kvs:=[]) (ep:=ep) hs) hh hat (by simp) fun h' tk acc hk hacc=>?_)
 have hl:acc.toList=[]:=List.eq_nil_of_length_eq_zero (by rw [Array.length_toList];exact hacc.1)
 rw [hl]
 have hle:∀ b o,w.s.heap.get? b=some o→b < h'.objs.size:=fun b o e=>Heap.lt_size (hk b o e)
 refine wpAny_bind (wpAny_newList ?_ (by simp))
 refine wpAny_bind (wpAny_holding (wpAny_call_entry slot_list_sort ⟨_,Heap.get?_push_size _ rfl,rfl⟩ entry_list_sort ?body (args_list_sort _)))
 case body =>
  refine list_sort_tree (vs:=[]) (ns:=[]) (n:=0) (Heap.get?_push_size _ rfl) .nil (by decide) fun out ns' a1 a2 a3=>⟨_,rfl,wpAny_pure ⟨_,rfl,?_⟩⟩
  obtain rfl:=List.Perm.eq_nil a2
  have ho:out=#[]:=by
   have:out.toList=[]:=by
    generalize out.toList=l at a1
    cases a1;rfl
   simpa using this
  subst ho
  obtain ⟨e,he⟩:=sortedHeap_at (vs:=[]) (out:=#[]) (n:=0) (Heap.get?_push_size h' (o:={cls:=.type "list",data:=.seq ([]:List Value).toArray}) rfl)
  refine P.at_ (xs:=[]) (tk:=tk) I (fun b o e=>?_) ⟨e,he⟩ rfl (nn_none fun ⟨o,q⟩=>Nat.lt_irrefl _ (hle _ o q))
  rw [sortedHeap_old (Nat.ne_of_lt (hle b o e)) (by rw [Heap.size_push];exact Nat.lt_succ_of_lt (hle b o e))]
  exact Heap.get?_push_of_some _ (hk b o e)
theorem prim_ok (G:GdOK g):PrimS g:=fun {c fm k vs H r w Q xs} e I rv P=>by
 have hh:=I.st.hd
 cases k with
 | len =>
  exact ob_e e fun a e1 e=>ob_e e fun i ei e=>v1_r e1 rv fun x rx=>by
   replace P:=vI_e e P
   have fin:∀ {m:Nat} {t tk},(m:Int)=i→Q (.int (m:Int) t) {w.s with toks:=tk}:=fun q=>P.tik I ⟨_,congrArg (fun z=>Value.int z _) q⟩
   refine alt_e ei (fun e=>ob_e e fun l el e=>?_) fun e=>ob_e e fun n en e=>ob_e e fun es ee e=>?_
   ·obtain ⟨q1,q2⟩:=lenB_e e
    exact seqOf_r (P:=fun x=>Wp g c (call (pkV .len) [x]) Q w) el I rx
     (fun a vs n h r=>call_len_list (sq_list h) (by rw [List.size_toArray,r.len];exact q2) (fin (by rw [List.size_toArray,r.len];exact q1)))
     (fun a vs n h r=>PyProof.Rows.len_tuple (sq_tuple h) (by rw [List.size_toArray,r.len];exact q2) (fin (by rw [List.size_toArray,r.len];exact q1)))
   ·obtain ⟨q1,q2⟩:=lenB_e e
    rw [locV_eq en] at rx
    refine dict_r G ee I rx fun d ps ex hs hd hr=>?_
    rw [ex]
    exact call_len_dict hs hd (by rw [hr.len];exact q2) (fin (by rw [hr.len];exact q1))
 | abs =>
  exact ob_e e fun a e1 e=>ob_e e fun i ei e=>v1_r e1 rv fun x rx=>by
   obtain ⟨t,rfl⟩:=intV_r ei rx
   refine call_abs_int fun u tk=>(vI_e e P).tik I ⟨u,congrArg (fun z=>Value.int z u) ?_⟩
   split
   ·next h=>exact (Int.ofNat_natAbs_of_nonpos (Int.le_of_lt h)).symm
   ·next h=>exact (Int.natAbs_of_nonneg (Int.not_lt.mp h)).symm
 | max =>
  exact ob_e e fun p e1 e=>by
   rw [v2_eq e1] at rv
   exact rv.c fun x us r1 rv=>LR.c rv fun y us r2 rv=>LR.n rv (int2_e e r1 r2 fun i j u v e=>max_two_ints hh fun h' tk kp=>by
    replace P:=vI_e e P
    split
    ·next q=>rw [if_pos q] at P;exact P.gr I kp ⟨_,rfl⟩
    ·next q=>rw [if_neg q] at P;exact P.gr I kp ⟨_,rfl⟩)
 | int =>
  exact ob_e e fun a e1 e=>ob_e e fun d ed e=>ob_e e fun i ei e=>v1_r e1 rv fun x rx=>by
   replace P:=vI_e e P
   rw [dV_eq ed] at rx
   cases d with
   | bool b=>rw [show x=.bool b from rx];rw [← Option.some.inj ei] at P;exact call_int_bool (P.tik I ⟨_,by cases b <;> rfl⟩)
   | int j=>obtain ⟨t,rfl⟩:=rx;rw [← Option.some.inj ei] at P;exact call_int_int (P.tik (tk:=w.s.toks) I ⟨_,rfl⟩)
   | _=>exact nos ei
 | tuple =>
  exact ob_e e fun a e1 e=>v1_r e1 rv fun x rx=>alt_e e (fun e=>ob_e e fun l el e=>by
    replace P:=vD_e e P
    rw [tupV_eq el] at rx
    have rx0:=rx
    obtain ⟨a,vs,rfl,⟨n,h⟩,r⟩:=tupD rx
    exact call_tuple_same (sq_tuple (I.R.fr h)) (P.tik (tk:=w.s.toks) I rx0))
   fun e=>ob_e e fun l el e=>ob_e e fun ds ed e=>gb_e e fun hz e=>by
    replace P:=vD_e e P
    obtain ⟨a,vs,rfl,⟨n,h⟩,r⟩:=lstOf_r el I rx
    rw [allDat_eq ed] at r
    refine call_tuple_list (sq_list h) (fun h' kp=>?_) (by rw [List.size_toArray,r.len,datL,List.length_map];exact szL (Nat.le_of_ble_eq_true hz))
    exact (P.nx (Ex.gr (tk:=w.s.toks) kp).wk).tupX (tk:=w.s.toks) (I.gr kp) r tup_mk
 | list =>
  exact ob_e e fun a e1 e=>ob_e e fun l el e=>gb_e e fun hz e=>v1_r e1 rv fun x rx=>by
   rw [← Option.some.inj e] at P
   have P:PoN g c fm H l Q w:=P
   have hz:=szL (Nat.le_of_ble_eq_true hz)
   exact seqOf_r (P:=fun x=>Wp g c (call (pkV .list) [x]) Q w) el I rx
    (fun a vs n h r=>call_list_seq _ (.inl rfl) h rfl rfl (fun h' c' kp ho=>P.at_ (tk:=w.s.toks) I kp ⟨c',ho⟩ r (size_none _)) (by rw [List.size_toArray,r.len];exact hz))
    (fun a vs n h r=>call_list_seq _ (.inr rfl) h rfl rfl (fun h' c' kp ho=>P.at_ (tk:=w.s.toks) I kp ⟨c',ho⟩ r (size_none _)) (by rw [List.size_toArray,r.len];exact hz))
 | sorted =>
  exact ob_e e fun a e1 e=>v1_r e1 rv fun x rx=>alt_e e (fun e=>ob_e e fun l el e=>ob_e e fun p ep e=>ob_e e fun s es e=>ob_e e fun t et e=>by
    rw [← Option.some.inj e] at P
    obtain ⟨a,vs,rfl,⟨n,h⟩,r⟩:=lstV_r el rx
    rw [v2_eq ep,asStr_eq es,asStr_eq et] at r
    obtain ⟨x,_,rfl,r1,r⟩:=r
    obtain ⟨y,_,rfl,r2,rfl⟩:=r
    exact sorted_two (sq_list (I.R.fr h)) r1 r2 I P)
   fun e=>ob_e e fun n en e=>ob_e e fun es ee e=>gb_e e fun hz e=>by
    rw [← Option.some.inj e] at P
    rw [locV_eq en] at rx
    refine dict_r G ee I rx fun d ps ex hs hd hr=>?_
    rw [ex]
    rw [List.isEmpty_iff.mp hz] at hr
    exact sorted_empty hs ((show ps=[] from hr) ▸ hd) I P
 | dict=>exact nos e
end
end
section
theorem kas_two:kas_sort 2=.ask 1 0 fun b=>.ret (if b=true then #[1,0] else #[0,1]) :=
 congrArg (KasT.ask 1 0) (funext fun b=>by cases b <;> rfl)
section
variable {g:Gd} {c:Cx} {fm:Fm} {w w1:Wo} {H H':Hp} {tk:Nat} {o:Ops} {h':Heap} {m:Str→Option Value}
theorem In.around {X:Addr→Prop} (I:In g c fm w H) (hn:w.s.heap.Ns c.env.locals m) (hn':h'.Ns c.env.locals m) (kp:∀ b o,b≠c.env.locals→¬ X b→w.h b=some o→h'.get? b=some o) (hX:∀ b,X b→(Free w b∧NotFr g c b)∧∃ o,h'.get? b=some o) :
  Ex (fun b=>Own g c b∨X b) w ⟨w.k,{w.s with heap:=h',toks:=tk}⟩∧In g c fm ⟨w.k,{w.s with heap:=h',toks:=tk}⟩ H:=by
 have K:∀ b o,¬ (b=c.env.locals∨X b)→w.h b=some o→h'.get? b=some o:=fun b o n=>kp b o (fun z=>n (.inl z)) fun z=>n (.inr z)
 have X0:Ex (fun b=>b=c.env.locals∨X b) w ⟨w.k,{w.s with heap:=h',toks:=tk}⟩:=⟨Eq.refl _,fun {b} e=>nn_none fun ⟨o,q⟩=>(Classical.em (b=c.env.locals∨X b)).elim
  (fun z=>z.elim (fun z=>(Ns.get hn').elim fun o e'=>nos (e.symm.trans (z ▸ e'))) fun z=>(hX b z).2.elim fun o e'=>nos (e.symm.trans e')) fun n=>nos (e.symm.trans (K b o n q)),fun _ n e=>K _ _ n e,.rfl,.inl,.inl⟩
 refine ⟨X0.wk' fun b z=>z.imp (fun z=>.inl z) id,I.mvN X0 (I.R.mv fun b o q e=>K b o (fun z=>q (z.elim (fun z=>z ▸ I.Lf) fun z=>(hX b z).1.1)) e) (fun m' q=>Ns.uniq hn q ▸ hn') fun {a} z {i b} h1 h2=>?_⟩
 exact z.elim (fun z q=>(I.cf (I.hs.symm ▸ h1) h2).1 (q.trans z)) fun z=>(hX a z).1.2.2 h1 h2
theorem key_ok (G:GdOK g) (hcall:CallC g o.call) (hcd:CallD g o.call):KeyS g o:=fun {c fm f dep ds H ks H' w Q xf x vs} e hdep I rk hx rx P=>ob_e e fun p ep e=>ob2_e e fun u1 H1 e1 e=>ob_e e fun s1 es1 e=>ob2_e e fun u2 H2 e2 e=>ob_e e fun s2 es2 e=>pr_e e fun z1 z2=>by
 subst z1;subst z2
 rw [v2_eq ep] at rx
 obtain ⟨v1,_,rfl,r1,rx⟩:=rx
 obtain ⟨v2,_,rfl,r2,rfl⟩:=rx
 obtain ⟨q,rfl,rkf⟩:∃ q,xf=.ref q∧∀ k,VR g k f (.ref q):=by
  rcases hcd e1 with ⟨k,rfl,_⟩ | ⟨k,rfl,_⟩
  ·exact ⟨_,rk,fun _=>rfl⟩
  ·exact ⟨_,rk,fun _=>rfl⟩
 have hh:=I.st.hd
 have hd:=I.st.dp
 have hu:=I.st.un
 rw [hdep] at hd hu
 obtain ⟨m,hn,_⟩:=I.loc
 obtain ⟨nx,hx⟩:=hx
 refine kat_sortedK (vs:=[v1,v2]) (b:=false) (f:=.ref q) (ledger_fr hn) (news:=led2 w.s.heap c.env.locals c.env.locals) (fun p hp=>⟨(led2_mem.mp hp).2,(led2_mem.mp hp).1.1,noHeap_get _⟩) (sq_list hx) (by simp) (Nat.le_of_ble_eq_true rfl) ?a1 ?a2 (fun x=>ksk_t1 q x) fun D kS ec h₁ F₁ N₁ l0 l1=>?_
 case a1=>ksk_a1
 case a2=>intro x';ksk_a2
 have kp₁:∀ b o,b≠c.env.locals→w.h b=some o→h₁.get? b=some o:=fun b o n e=>(N₁ (b,o) (.tail _ (.tail _ (led2_mem.mpr ⟨⟨n,n⟩,e⟩)))).1
 obtain ⟨gS₁,nSL,_⟩:=N₁ _ (.head _)
 obtain ⟨gD₁,nDL,_⟩:=N₁ _ (.tail _ (.head _))
 have D0:w.h D=none:=nn_none fun ⟨o,z⟩=>absurd (l1 (D,o) (led2_mem.mpr ⟨⟨nDL,nDL⟩,z⟩)) (Nat.lt_irrefl _)
 have S0:w.h kS=none:=nn_none fun ⟨o,z⟩=>absurd (Nat.lt_trans l0 (l1 (kS,o) (led2_mem.mpr ⟨⟨nSL,nSL⟩,z⟩))) (Nat.lt_irrefl _)
 have nDS:D≠kS:=Nat.ne_of_lt l0
 have nS:=I.nw S0
 have nD:=I.nw D0
 let X:Addr→Prop:=fun b=>b=D∨b=kS
 obtain ⟨X₁,I₁⟩:=I.around (X:=fun _=>False) (tk:=w.s.toks) hn F₁.ns (fun b o n _=>kp₁ b o n) fun _ z=>z.elim
 have Y₁:=X₁.wk' (O':=fun b=>Own g c b∨X b) fun b z=>z.elim .inl False.elim
 have Sp:∀ {w w':Wo},Ex noO w w'→Ex (fun b=>Own g c b∨X b) w w':=fun x=>x.wk
 have one:∀ {d u s H0 H1 w' v ks e'} {C:Value→Nat→Shared→Prop},o.call dep f [.dat d] H0=some (u,H1)→strV u=some s→In g c fm w' H0→w'.s.heap.Ns c.env.locals m→w'.h kS=some (seqObj "list" (List.toArray ks) e')→w'.h D=some (seqObj "list" #[] ec)→Free w' kS→Free w' D→Ex (fun b=>Own g c b∨X b) w w'→VR g w'.k (.dat d) v →
   (∀ w'' t e'',In g c fm w'' H1→w''.s.heap.Ns c.env.locals m→w''.h kS=some (seqObj "list" (List.toArray (ks++[.str (toS s) t])) e'')→w''.h D=some (seqObj "list" #[] ec)→Free w'' kS→Free w'' D→Ex (fun b=>Own g c b∨X b) w w''→KLe w'.k w''.k→C (.str (toS s) t) e'' w''.s) →
   wpAny (model g.st.prog g.st.w) c.A.in1.in1 (call (.ref q) [v]) (KatBack noHeap c.env.locals m kS ks e' C) (fun _ _=>False) w'.s:=by
  intro d u s H0 H1 w' v ks e' C ec1 es I' hn' gS gD fS fD Y rv C'
  refine wpAny_call (@hcall ⟨c.sc,c.env,c.A.in1.in1,fun _ _=>False⟩ {fm with dep:=dep} f [.dat d] H0 u H1 w' _ _ _ ec1 ((I'.dp' (A:=c.A.in1.in1) hh (by show c.A.depth+4 * dep+10≤_;omega) (by show c.A.units+1+1+16 * dep+200≤_;omega)).e _) (rkf _) (.one rv) fun w₂ x1 X₂ I₂ k₁=>?_)
  obtain ⟨o1,t,rfl⟩:=strV_r es k₁
  have gS₂:=X₂.keep fS.2 id gS
  have gD₂:=X₂.keep fD.2 id gD
  have ns₂:=Ns.at_ hn' fun o e=>X₂.keep I'.Lf.2 id e
  have I₃:In g c fm w₂ H1:=(I₂.dp' (A:=c.A) (dep:=fm.dep) hh I.st.dp I.st.un).e c.E
  refine KatBack.intro (ledger_fr ns₂) (led2_news gS₂ nSL) (.head fun p hp=>(led2_mem.mp hp).1.2) fun h₃ c₃ F₃ N₃=>?_
  obtain ⟨gS₃,kp₃⟩:=led2_keep (h:=w₂.s.heap) N₃
  obtain ⟨X₃,I₄⟩:=I₃.around (X:=fun b=>b=kS) (tk:=w₂.s.toks) ns₂ F₃.ns (fun b o=>kp₃ b o) fun b z=>z ▸ ⟨⟨X₂.free gS fS,nS⟩,_,gS₃⟩
  exact C' ⟨w₂.k,{w₂.s with heap:=h₃}⟩ t c₃ I₄ F₃.ns gS₃ (kp₃ _ _ nDL nDS gD₂) (X₂.free gS fS) (X₂.free gD fD) ((Y.trans (Sp X₂)).trans (X₃.wk' fun b z=>z.imp id fun z=>.inr z)) X₂.u
 refine KatKeys.cons (one (w':=⟨w.k,{w.s with heap:=h₁}⟩) e1 es1 I₁ F₁.ns gS₁ gD₁ (I.new S0) (I.new D0) Y₁ r1 fun w₂ t₁ c₃ I₂ n₂ gS₂ gD₂ fS₂ fD₂ Y₂ u₂=>KatKeys.cons (one e2 es2 I₂ n₂ gS₂ gD₂ fS₂ fD₂ Y₂ (r2.up u₂) fun w₄ t₂ c₅ I₄ n₄ gS₄ gD₄ fS₄ fD₄ Y₄ u₄=>?_))
 refine KatKeys.nil ?_
 show wpAny _ _ (keyKind' [Value.str (toS s1) t₁,Value.str (toS s2) t₂].toArray) _ _ _
 rw [keyKind_strs (.cons _ _ (.cons _ _ .nil))]
 refine wpAny_pure ?_
 show (kas_sort 2).kasWp _ _ _
 rw [kas_two]
 show wpAny _ _ (keyLt' oneType' (.str (toS s2) t₂) (.str (toS s1) t₁)) _ _ _
 rw [keyLt'_oneType]
 refine oneLt_str ?_
 have fin:∀ {l:List AV} {out:List Value},VRL g w₄.k l out→PoN g c fm H2 l Q w→KatFin noHeap c.env.locals m kS D [Value.str (toS s1) t₁,Value.str (toS s2) t₂] c₅ ec out (fun s4=>Q (.ref D) s4) w₄.s:=by
  intro l out hl P
  refine KatFin.intro (ledger_fr n₄) (led2_news gS₄ nSL) (.head fun p hp=>(led2_mem.mp hp).1.2) fun h₆ c₆ F₇ N₇=>?_
  obtain ⟨gS₆,kp₆⟩:=led2_keep (h:=w₄.s.heap) N₇
  have gD₆:=kp₆ D _ nDL nDS gD₄
  obtain ⟨X₆,I₆⟩:=I₄.around (X:=fun b=>b=kS) (tk:=w₄.s.toks) n₄ F₇.ns (fun b o=>kp₆ b o) fun b z=>z ▸ ⟨⟨fS₄,nS⟩,_,gS₆⟩
  refine KasFin.intro (ledger_fr F₇.ns) (led2_news gD₆ nDL) (.head fun p hp=>(led2_mem.mp hp).1.2) fun h₇ c₇ F₉ N₉=>?_
  obtain ⟨gD₇,kp₇⟩:=led2_keep (h:=h₆) N₉
  obtain ⟨X₇,I₇⟩:=I₆.around (X:=fun b=>b=D) (tk:=w₄.s.toks) F₇.ns F₉.ns (fun b o=>kp₇ b o) fun b z=>z ▸ ⟨⟨fD₄,nD⟩,_,gD₇⟩
  have Y:Ex (fun b=>Own g c b∨X b) w ⟨w₄.k,{w₄.s with heap:=h₇}⟩:=(Y₄.trans (X₆.wk' fun b z=>z.imp id fun z=>.inr z)).trans (X₇.wk' fun b z=>z.imp id fun z=>.inl z)
  exact P ⟨w₄.k,{w₄.s with heap:=h₇}⟩ D out (Ex.own .rfl Y fun b z=>z.elim (fun z=>z ▸ D0) fun z=>z ▸ S0) I₇ ⟨c₇,gD₇⟩ hl fD₄ D0
 have elt:decide ((toS s2).cps.toList < (toS s1).cps.toList)=strLt s2 s1:=by
  rw [← ltCps_eq,strLt_cps]
 show KatFin noHeap c.env.locals m kS D _ c₅ ec (katRev false ((if decide ((toS s2).cps.toList < (toS s1).cps.toList)=true then #[1,0] else #[0,1]:Array Nat).toList.map fun i=>(katRev false [v1,v2]).getD i Value.none)) _ _
 rw [elt]
 replace P:PoN g c fm H2 ((cond (strLt s2 s1) [(s2,p.2),(s1,p.1)] [(s1,p.1),(s2,p.2)]).map fun x=>.dat x.2) Q w:=P
 cases z:strLt s2 s1 with
 | true=>rw [z] at P;exact fin (.cons (r2.up Y₄.u) (.one (r1.up Y₄.u))) P
 | false=>rw [z] at P;exact fin (.cons (r1.up Y₄.u) (.one (r2.up Y₄.u))) P
end
end
section
section
variable {prog:Program} {w:World} {A:Around} {E:Value→Shared→Prop} {s:Shared}
theorem list_no_keys:typeLookup (.type "list") "keys" = pure none:=am_miss_of_fast (by kernel_rfl)
theorem no_keys {a:Addr} {xs:Array Value} {k:Nat} {Q:Option Value→Shared→Prop} (hx:s.heap.get? a=some {cls:=.type "list",data:=.seq xs k}) (hA:A.handled=none)
  (h:∀ h' tk,(∀ b o,s.heap.get? b=some o→h'.get? b=some o)→Q none {s with heap:=h',toks:=tk}):wpAny (model prog w) A (getAttr? (.ref a) "keys") Q E s:=by
 obtain ⟨hp,g,d,tk,os⟩:=s
 have hT:∀ tk',(⟨hp,g,d,tk',os⟩:Shared).TypeIs (.ref a) "list":=fun _=>⟨_,hx,rfl⟩
 have f1:=sub_AttributeError
 have f3:=F.slot_list_getattribute.lookup
 have f4:=F.slot_list_getattribute.bind (.ref a)
 have f5:=am_list_getattr_none
 have hname:(["__module__", "__name__", "__qualname__", "__doc__", "__annotations__"]:List Str).contains "keys" = false:=by decide +kernel
 unfold getAttr? getAttrBy? getAttrBy
 repeat (any_goals (first | assumption | exact hT _ | ((with_reducible show wpAny _ _ (call (Value.builtin "list.__getattribute__") _ _) _ _ _);refine call_meets F.slot_list_getattribute (hT _) am_entry_list_getattribute (F.args_list_getattribute_2 _ _) (meets_getattribute_miss_list a xs k #[] "keys" _ list_no_keys hname (by decide +kernel)) ⟨hx,hA,fun h' tk' e hx'=>?_⟩) | wp_step))
 obtain ⟨t',u',he⟩:=hx'.there
 show wpAny _ _ (getattributeRaised _ _ _ _ _ _ _) _ _ _
 unfold getattributeRaised
 repeat (any_goals (first | assumption | wp_step))
 exact h _ _ hx'.keeps
end
theorem entry_dul:entryFor table "dict.update.loop" = some Builtin.«dict.update.loop»:=entryFor_of_tree (by kernel_rfl)
theorem plain_dul:plainId "dict.update.loop" = true:=by decide +kernel
theorem putS_len (i:List Nat) (v:AV) (es:List (List Nat×AV)):(putS es i v).length≤es.length+1:=by
 induction es with
 | nil=>exact Nat.le_refl _
 | cons p r ih =>
  show (cond (listBeq p.1 i) ((p.1,v)::r) (p::putS r i v)).length≤_
  cases listBeq p.1 i with
  | true=>exact Nat.le_succ _
  | false=>exact Nat.succ_le_succ ih
section
variable {g:Gd} {c:Cx} {fm:Fm} {w:Wo} {H:Hp} {A:Around} {k:Kn} {d I ax:Addr} {items:List Value}
theorem pair_items {s:Shared} {a:Addr} {vs:List Value} {n:Nat} {Q:List Value→Shared→Prop} {E:Value→Shared→Prop} (e:s.heap.get? a=some (sqO "tuple" vs n)) (h:Q vs s):wpAny (model g.st.prog g.st.w) A (Builtin.Dict.pairItems (.ref a)) Q E s:=by
 have hT:s.TypeIs (.ref a) "tuple":=⟨_,e,rfl⟩
 unfold Builtin.Dict.pairItems
 refine wpAny_bind (wpAny_typeOf hT ?_)
 rw [if_pos (by decide)]
 refine wpAny_bind ?_
 obtain ⟨hp,g',d,tk,os⟩:=s
 unfold seqItems? sqO at *
 repeat (any_goals (first | assumption | wp_step))
noncomputable def Off (k:Kn) (h:Heap) (d I:Addr):Prop:=∀ b o,k.f b=some o→h.get? b=some o∧b≠I∧b≠d
theorem upd_loop (hh:A.handled=none) (hdI:d≠I) (haI:ax≠I) (had:ax≠d) (r:List DV):∀ {i:Nat} {us:List Value} {es es':List (List Nat×AV)} {ps:List (Str×Value)} {s:Shared} {t:Tok} {R:Result→Shared→Prop},
  Off k s.heap d I→s.heap.IsListIter I ax i→s.heap.IsList ax items.toArray→items.drop i=us→VRL g k (datL r) us→s.heap.DictOf (PySem.strKind g.st.prog g.st.w) d ps→LR (dcE g k) es ps→pairsD r es=some es'→es.length+r.length≤10000 →
  (∀ h' tk ps',(∀ b o,b≠I→b≠d→s.heap.get? b=some o→h'.get? b=some o)→h'.DictOf (PySem.strKind g.st.prog g.st.w) d ps'→LR (dcE g k) es' ps'→R (.ok (.ret .none)) {s with heap:=h',toks:=tk}) →
  codeAny (model g.st.prog g.st.w) A (.builtin "dict.update.loop" ⟨[.ref d,.ref I,.int i t,.none],[]⟩) R s:=by
 induction r with
 | nil =>
  intro i us es es' ps s t R off hi hl hu hr hD hE hp hz j
  have hr:us=[]:=hr
  subst hr
  have hp:=Option.some.inj hp
  subst hp
  refine codeAny_builtin entry_dul ?_
  rw [Around.under_plainId plain_dul _]
  show wpAny _ A.in1 (pyNext (.ref I) >>= _) _ _ s
  refine wpAny_bind (wpAny_pyNext_list_end hh hi hl (by simpa using List.drop_eq_nil_iff.mp hu) fun h' he=>?_)
  show wpAny _ A.in1 (Builtin.Dict.addKeywords d [] >>= fun _=>ret .none) _ _ _
  exact wpAny_bind (wpAny_pure (wpAny_pure (j h' s.toks ps (fun b o n _ e=>he b o n e) (hD.extBut he hdI) hE)))
 | cons x r ih =>
  intro i us es es' ps s t R off hi hl hu hr hD hE hp hz j
  replace hp:ob (asTup x) (fun l=>ob (v2 l) fun p=>ob (asStr p.1) fun s=>pairsD r (putS es s (.dat p.2)))=some es':=hp
  refine ob_e hp fun l el hp=>ob_e hp fun p ep hp=>ob_e hp fun sk ek hp=>?_
  obtain ⟨_,us,rfl,rx,hr⟩:=hr
  rw [asTup_eq el] at rx
  obtain ⟨a,ws,rfl,⟨n,ta⟩,rt⟩:=tupD rx
  rw [v2_eq ep,asStr_eq ek] at rt
  obtain ⟨kv,_,rfl,rk,rt⟩:=rt
  obtain ⟨vv,_,rfl,rv,rfl⟩:=rt
  have hget:items[i]?=some (.ref a):=by
   have:=congrArg (fun l=>l[0]?) hu
   simpa using this
  have hu':items.drop (i+1)=us:=by
   have:=congrArg List.tail hu
   simpa [List.tail_drop] using this
  refine codeAny_builtin entry_dul ?_
  rw [Around.under_plainId plain_dul _]
  show wpAny _ A.in1 (pyNext (.ref I) >>= _) _ _ s
  refine wpAny_bind (wpAny_pyNext_list_item hi hl (by simpa using hget) fun h₁ hi₁ hs₁=>?_)
  have kp₁:∀ b o,b≠I→s.heap.get? b=some o→h₁.get? b=some o:=fun b o n e=>(hs₁.2 b n).trans e
  dsimp only
  refine wpAny_bind (wpAny_holding ?_)
  refine wpAny_bind (wpAny_tryCatch (pair_items (kp₁ _ _ (off _ _ ta).2.1 (off _ _ ta).1) ?_))
  dsimp only
  refine wpAny_holding ?_
  refine wpAny_dictSet_pairs (knd:=PySem.strKind g.st.prog g.st.w) (k:=toS sk) (skey rk) (hD.sameBut hs₁ hdI) (fun h₂ hD₂ hs₂=>?_) (by rw [hE.len];rw [List.length_cons] at hz;exact szL (Nat.le_trans (Nat.le_add_right _ _) hz))
  have kp:∀ b o,b≠I→b≠d→s.heap.get? b=some o→h₂.get? b=some o:=fun b o n1 n2 e=>(hs₂.2 b n2).trans (kp₁ b o n1 e)
  refine wpAny_pure ⟨plainId_quiet plain_dul _,?_⟩
  exact ih (fun b o e=>⟨kp b o (off b o e).2.1 (off b o e).2.2 (off b o e).1,(off b o e).2⟩) (hi₁.at fun o e=>(hs₂.2 I hdI.symm).trans e) (hl.at fun o e=>kp ax o haI had e) hu' hr hD₂ (dc_put (a:=.dat p.2) rv hE (let ⟨_,_,_,_,_,_,_,_,hn⟩:=hD;hn)) hp
   (Nat.le_trans (Nat.add_le_add_right (putS_len sk (.dat p.2) es) _) (by rw [Nat.add_assoc,Nat.add_comm 1];exact hz)) fun h' tk ps' kp' hD' hE'=>j h' tk ps' (fun b o n1 n2 e=>kp' b o n1 n2 (kp b o n1 n2 e)) hD' hE'
theorem dict_pairs {x:Addr} {l:List DV} {vs:List Value} {n:Nat} {es:List (List Nat×AV)} {Q:Value→Shared→Prop} (In0:In g c fm w H) (ex:w.k.f x=some (sqO "list" vs n)) (rl:VRL g w.k (datL l) vs) (e:pairsD l []=some es) (hz:l.length≤10000)
  (j:∀ d h' tk ps,w.h d=none→(∀ b o,w.h b=some o→h'.get? b=some o)→h'.DictOf (PySem.strKind g.st.prog g.st.w) d ps→LR (dcE g w.k) es ps→Q (.ref d) {w.s with heap:=h',toks:=tk}) :
  Wp g c (call (.type "dict") [.ref x]) Q w:=by
 have hh:=In0.st.hd
 refine callType_codes (Q₁:=fun obj s₁=>obj=.ref w.s.heap.objs.size∧s₁={w.s with heap:=w.s.heap.push {cls:=.type "dict",data:=.dict #[]}}) F.kt_called_dict (F.kt_typeCall_dict_1 _) F.entry_dict_init (kt_code_dict_new _ ⟨rfl,rfl⟩) ?_
 rintro obj s₁ ⟨rfl,rfl⟩
 have hnew:(w.s.heap.push {cls:=.type "dict",data:=.dict #[]}).DictOf (PySem.strKind g.st.prog g.st.w) w.s.heap.objs.size []:=Heap.DictOf.new w.s.heap
 have ex0:=In0.R.fr ex
 have ex1:(w.s.heap.push {cls:=.type "dict",data:=.dict #[]}).get? x=some (sqO "list" vs n):=Heap.get?_push_of_some _ ex0
 refine ⟨hnew.typeIs,F.args_dict_init_2 _ _,?_⟩
 unfold Builtin.«dict.__init__»
 refine wpAny_bind ?_
 unfold Builtin.Dict.selfAndRest
 refine wpAny_bind (wpAny_notOrdered_dict hnew.typeIs ?_)
 show wpAny _ _ (pure (w.s.heap.objs.size,[Value.ref x])) _ _ _
 refine wpAny_pure ?_
 show wpAny _ _ (Builtin.Dict.updateFrom "dict.__init__" w.s.heap.objs.size (.ref x) [] .none) _ _ _
 unfold Builtin.Dict.updateFrom
 refine wpAny_bind (wpAny_typeOf (T := "list") ⟨_,ex1,rfl⟩ ?_)
 rw [if_pos (by decide)]
 refine wpAny_bind (no_keys ex1 hh fun h₁ tk₁ G₁=>?_)
 simp only [Option.isNone_none,if_true]
 refine wpAny_bind (wpAny_rule ?_)
 have exl:h₁.IsList x vs.toArray:=⟨_,G₁ _ _ ex1,rfl,n,rfl⟩
 refine wpAny_bind (wpAny_pyIter_list exl ?_)
 have d0:w.h w.s.heap.objs.size=none:=size_none _
 have I0:w.h h₁.objs.size=none:=nn_none fun ⟨o,q⟩=>absurd (size_none h₁) (ne_of (G₁ _ _ (Heap.get?_push_of_some _ q)))
 have hdI:w.s.heap.objs.size≠h₁.objs.size:=fun q=>by
  obtain ⟨o,_,_,e1,_⟩:=hnew
  exact absurd (q ▸ size_none h₁) (ne_of (G₁ _ _ e1))
 have keep2:∀ b o,w.h b=some o→(h₁.push {cls:=.type "list_iterator",data:=.fields #[.ref x,.int 0 0]}).get? b=some o:=fun b o e=>Heap.get?_push_of_some _ (G₁ b o (Heap.get?_push_of_some _ e))
 have nI:∀ {b o},w.h b=some o→b≠h₁.objs.size:=fun e z=>nos (I0.symm.trans (z ▸ e))
 have nd:∀ {b o},w.h b=some o→b≠w.s.heap.objs.size:=fun e z=>nos (d0.symm.trans (z ▸ e))
 refine wpAny_pure ⟨plainId_quiet plain_dul _,?_⟩
 have hnew1:h₁.DictOf (PySem.strKind g.st.prog g.st.w) w.s.heap.objs.size []:=by
  obtain ⟨o,e,q⟩:=Heap.dictOf_iff.mp hnew
  exact Heap.dictOf_iff.mpr ⟨o,G₁ _ _ e,q⟩
 refine upd_loop (A:=c.A.in1) (s:={w.s with heap:=h₁.push {cls:=.type "list_iterator",data:=.fields #[.ref x,.int 0 0]},toks:=tk₁}) (items:=vs) (k:=w.k) hh hdI (nI ex0) (nd ex0) l (fun b o e=>⟨keep2 b o (In0.R.fr e),nI (In0.R.fr e),nd (In0.R.fr e)⟩)
  ⟨_,Heap.get?_push_size _ rfl,rfl,rfl⟩ (exl.push _) rfl rl (hnew1.push _) (es:=[]) rfl e (by simpa using hz) fun h' tk ps' kp hD hE=>⟨rfl,j _ h' tk ps' d0 (fun b o e=>kp b o (nI e) (nd e) (keep2 b o e)) hD hE⟩
theorem dict_ok (G:GdOK g):DictS g:=fun {c fm vs H es w Q xs} e I rv P=>ob_e e fun a e1 e=>v1_r e1 rv fun x rx=>by
 have done:∀ {d h' tk ps},w.h d=none→(∀ b o,w.h b=some o→h'.get? b=some o)→h'.DictOf (PySem.strKind g.st.prog g.st.w) d ps→LR (dcE g w.k) es ps→Q (.ref d) {w.s with heap:=h',toks:=tk}:=fun {d h' tk ps} hd kp hD r=>by
  obtain ⟨ob,eo,hO⟩:=dictO_of hD
  exact P.loc (w1:=⟨w.k,{w.s with heap:=h',toks:=tk}⟩) I (Ex.gr kp).wk (I.gr kp) (I.new hd) hd eo ⟨ps,hO,r.mono (dcE.up (adp_le I.R.top))⟩
 refine alt_e e (fun e=>ob_e e fun l el e=>gb_e e fun hz e=>?_) fun e=>ob_e e fun n en e=>ob_e e fun es0 ee e=>gb_e e fun hz e=>?_
 ·obtain ⟨a,vs,rfl,⟨n,h⟩,r⟩:=lstV_r el rx
  exact dict_pairs I h r e (Nat.le_of_ble_eq_true hz) fun d h' tk ps hd kp hD hE=>done hd kp hD hE
 ·rw [locV_eq en] at rx
  refine dict_r G ee I rx fun d ps ex hs hd hr=>?_
  rw [ex]
  rw [List.isEmpty_iff.mp hz] at hr
  have hr:ps=[]:=hr
  subst hr
  have e:=Option.some.inj e
  subst e
  refine kt_call_dict hs hd (by simp) fun h' hD hsb=>done (tk:=w.s.toks) (size_none _) (fun b o e=>?_) hD rfl
  rw [hsb.2 b (fun q=>nos ((size_none _).symm.trans (q ▸ e)))]
  exact Heap.get?_push_of_some _ e
end
end
section
theorem intercal_pre (sep a y:List Nat) (r:List (List Nat)):intercal sep ((a++y)::r)=a++intercal sep (y::r):=by
 cases r with
 | nil=>rfl
 | cons z r=>show a++y++sep++_=a++(y++sep++_);rw [List.append_assoc,List.append_assoc,List.append_assoc]
theorem glued_fold (sep:List Nat) (r:List (List Nat)):∀ acc:List Nat,(r.map toS).foldl (fun acc p=>acc++(toS sep).cps++p.cps) acc.toArray=(intercal sep (acc::r)).toArray:=by
 induction r with
 | nil=>exact fun _=>rfl
 | cons y r ih =>
  intro acc
  rw [List.map_cons,List.foldl_cons,show acc.toArray++(toS sep).cps++(toS y).cps=(acc++sep++y).toArray by simp [toS],ih,intercal_pre]
  rfl
theorem join_eq (sep:List Nat) (ss:List (List Nat)):Txt.join (toS sep) (ss.map toS)=toS (intercal sep ss):=by
 cases ss with
 | nil=>rfl
 | cons x r=>exact congrArg Str.mk (glued_fold sep r x)
theorem intercal_len (sep:List Nat) (ss:List (List Nat)):(ss.map (·.length)).sum+ss.length * sep.length≤(intercal sep ss).length+sep.length:=by
 induction ss with
 | nil=>show 0+0 * _≤0+_;rw [Nat.zero_mul,Nat.zero_add];exact Nat.zero_le _
 | cons x r ih =>
  rw [List.map_cons,List.sum_cons,List.length_cons,Nat.succ_mul]
  cases r with
  | nil=>show x.length+0+(0 * _+_)≤x.length+_;rw [Nat.zero_mul,Nat.zero_add,Nat.add_zero];exact Nat.le_refl _
  | cons y r=>show _≤(x++sep++intercal sep (y::r)).length+_;rw [List.length_append,List.length_append];omega
theorem intercal_ok {sep:List Nat} (hs:strOK sep=true) {ss:List (List Nat)} (h:∀ s∈ss,strOK s=true):strOK (intercal sep ss)=true:=by
 induction ss with
 | nil=>show strOK []=true;unfold strOK;simp
 | cons x r ih=>cases r with
  | nil=>exact h x (List.mem_cons_self ..)
  | cons y r=>exact strOK_app (strOK_app (h x (List.mem_cons_self ..)) hs) (ih fun s q=>h s (List.mem_cons_of_mem _ q))
section
open PySem.Builtin PySem.Builtin.Str
theorem cnt_le (c:Nat):∀ l:List Nat,cnt c l≤(l.length:Int)
 | []=>by rw [cnt_nil];exact Int.le_refl _
 | n::r=>by
  have:=cnt_le c r
  rw [cnt_cons,List.length_cons]
  split <;> omega
theorem occ_len (x:Str) (c:Nat):((occurrences x ⟨#[c]⟩ 0 x.length (x.length+1)).length:Int)=cnt c x.cps.toList:=count_is x c
theorem parts_len (x:Str) (o:List Nat) (k:Nat):(partsBetween x o k).length=o.length+1:=by
 unfold partsBetween
 simp
theorem parts_ok {x:Str} {o:List Nat} {k:Nat} (h:x.cps.all (· < 0x110000)=true):∀ p∈partsBetween x o k,p.cps.all (· < 0x110000)=true:=by
 intro p hp
 unfold partsBetween at hp
 obtain ⟨⟨i,j⟩,_,rfl⟩:=List.mem_map.mp hp
 rw [← Array.all_toList,List.all_eq_true] at h ⊢
 intro n hn
 refine h n ?_
 have e:(strSub x i j).cps.toList=_:=StrLaws.strSub_toList x i j
 rw [e] at hn
 exact List.mem_of_mem_drop (List.mem_of_mem_take hn)
theorem split_ok {x y:Str} (h:x.cps.all (· < 0x110000)=true):∀ p∈Txt.split x y,p.cps.all (· < 0x110000)=true:=by
 unfold Txt.split
 split
 ·intro p hp;rw [List.mem_singleton.mp hp];exact h
 ·split
  ·intro p hp;rw [List.mem_singleton.mp hp];exact h
  ·exact parts_ok h
end
theorem erase_last {α:Type} (ws:List α) (h:0 < ws.length):ws.toArray.eraseIdxIfInBounds (ws.toArray.size - 1)=ws.dropLast.toArray:=by
 have hp:ws.toArray.size - 1 < ws.toArray.size:=Nat.sub_lt (by rwa [List.size_toArray]) Nat.one_pos
 unfold Array.eraseIdxIfInBounds
 rw [dif_pos hp,List.eraseIdx_toArray]
 exact congrArg List.toArray (by rw [show ws.toArray.size - 1=ws.length - 1 by rw [List.size_toArray]];exact List.eraseIdx_length_sub_one ..)
section
variable {g:Gd} {c:Cx} {fm:Fm} {w w1:Wo} {H H':Hp} {a b v:AV} {l l':List AV} {x xa xb:Value} {vs:List AV} {xs us:List Value} {tk n k:Nat} {Q:Value→Shared→Prop} {r:Res} {s t u:List Nat} {d:Addr} {kn:Kn}
theorem strs_rel {ss:List (List Nat)}:∀ {l:List AV} {ws:List Value},strs? l=some ss→VRL g kn l ws→StrsAre ws (ss.map toS)∧∀ s∈ss,strOK s=true:=by
 intro l
 induction l generalizing ss with
 | nil=>exact fun {ws} e r=>by rw [← Option.some.inj e];exact r.n ⟨.nil,nofun⟩
 | cons a l ih =>
  exact fun {ws} e r=>ob_e (o:=strV a) e fun s es e=>ob_e e fun ss' e2 e=>by
   rw [← Option.some.inj e]
   refine r.c fun v us h r=>?_
   obtain ⟨o,t,rfl⟩:=strV_r es h
   obtain ⟨h1,h2⟩:=ih e2 r
   exact ⟨.cons _ t h1,fun s' z=>(List.mem_cons.mp z).elim (fun z=>z ▸ o) (h2 s')⟩
theorem strs_drel:∀ l:List (Str×Tok),(∀ p∈l.map (·.1),p.cps.all (· < 0x110000)=true)→VRL g kn (datL ((l.map (·.1)).map fun p=>DV.str p.cps.toList)) (strValues l)
 | [],_=>rfl
 | (p,t)::r,k=>.cons ⟨k p (List.mem_cons_self ..),t,rfl⟩ (strs_drel r fun q hq=>k q (List.mem_cons_of_mem _ hq))
theorem split_call {ch:Nat} {t u:Tok} (hz:s.length≤10000)
  (k:∀ l:List (Str×Tok),l.map (·.1)=Txt.split (toS s) (toS [ch])→∀ tk,Q (.ref w.s.heap.objs.size) {w.s with heap:=w.s.heap.push (sqO "list" (strValues l) 0),toks:=tk}) :
  Wp g c (call (.builtin "str.split") [.str (toS s) t,.str (toS [ch]) u]) Q w:=by
 have hx:(toS s).length=s.length:=by simp [Str.length]
 have hy:((toS [ch]).length==0)=false:=rfl
 have hs2:(Builtin.Str.partsBetween (toS s) (Builtin.Str.occurrences (toS s) (toS [ch]) 0 (toS s).length ((toS s).length+1)) (toS [ch]).length).length≤sizeLine:=by
  have hoc:((Builtin.Str.occurrences (toS s) (toS [ch]) 0 (toS s).length ((toS s).length+1)).length:Int)=cnt ch (toS s).cps.toList:=occ_len (toS s) ch
  have hle:=cnt_le ch s
  rw [parts_len,sizeLine_eq]
  have:cnt ch (toS s).cps.toList=cnt ch s:=rfl
  omega
 cases h1:(decide ((toS s).length < (toS [ch]).length)||decide (Builtin.Str.strKind (toS s) < Builtin.Str.strKind (toS [ch])))
 ·cases hf:(Builtin.Str.occurrences (toS s) (toS [ch]) 0 (toS s).length ((toS s).length+1)).isEmpty
  ·refine call_meets F.slot_str_split (typeIs_str _ _ _) F.entry_str_split (F.args_str_split_2 _ _) (meets_str_split_sep (toS s) (toS [ch]) t u h1 hy hf (by rw [hx];exact szL hz) hs2) ?_
   show wants Q c.E _ {w.s with toks:=_,heap:=w.s.heap.push {cls:=.type "list",data:=.seq (strsFrom w.s.toks (Builtin.Str.partsBetween (toS s) (Builtin.Str.occurrences (toS s) (toS [ch]) 0 (toS s).length ((toS s).length+1)) (toS [ch]).length)).toArray}}
   rw [strsFrom_eq]
   exact k (numbered w.s.toks _) ((numbered_texts _ _).trans ((if_neg (ne_true_of_eq_false h1)).trans (if_neg (ne_true_of_eq_false hf))).symm) _
  ·exact call_meets F.slot_str_split (typeIs_str _ _ _) F.entry_str_split (F.args_str_split_2 _ _) (meets_str_split_not_found (toS s) (toS [ch]) t u h1 hy hf)
    (k [(toS s,t)] ((if_neg (ne_true_of_eq_false h1)).trans (if_pos hf)).symm w.s.toks)
 ·exact call_meets F.slot_str_split (typeIs_str _ _ _) F.entry_str_split (F.args_str_split_2 _ _) (meets_str_split_cannot_occur (toS s) (toS [ch]) t u h1)
   (k [(toS s,t)] (if_pos h1).symm w.s.toks)
theorem list_set {f:Array Value→Array Value} {m:Nat} (I:In g c fm w H) (ed:w.k.φ n=some d) (e:w.h d=some (sqO "list" us m)) (hf:f us.toArray=xs.toArray) (r:VRL g w.k l' xs) (rv:VR g w.k v x) (P:Po g c fm (H.set n (.list l')) v Q w):Q x {w.s with heap:=w.s.heap.update d (Obj.mapSeq f),toks:=w.s.toks}:=by
 have hs:=Heap.SameBut.update w.s.heap d (Obj.mapSeq f)
 obtain ⟨mm,hm,_⟩:=I.loc
 have nL:c.env.locals≠d:=fun z=>I.Lf.2 n (z ▸ ed)
 exact PoU.set (QU:=fun _ s=>Q x s) (fun w' X I'=>P w' x X I' (rv.up X.u)) I ed (fun b _ _ n2 e=>(hs.2 b n2).trans e) hm (Ns.at_ hm fun o e=>(hs.2 _ nL).trans e) (get?_update_seq e f) ⟨xs,_,by rw [hf];rfl,r⟩
theorem drop_last {α β:Type} {P:α→β→Prop} {l:List α}:∀ {vs:List β},LR P l vs→LR P l.dropLast vs.dropLast:=by
 induction l with
 | nil=>exact fun r=>r.n rfl
 | cons a l ih =>
  intro vs r
  obtain ⟨v,us,rfl,p,r⟩:=r
  cases l with
  | nil=>rw [show us=[] from r];exact Eq.refl []
  | cons b l =>
   obtain ⟨v',us,rfl,p',r⟩:=r
   exact .cons p (ih (vs:=v'::us) (.cons p' r))
theorem methS_ok:MethS g:=fun {c fm u a vs H v H' w Q xa xs} e I r1 rs P=>by
 unfold methId
 refine alt_e e (fun e=>ob_e e fun s es e=>ob_e e fun b eb e=>?_) fun e=>ob_e e fun n en e=>ob_e e fun l el e=>?_
 ·rw [es]
  obtain ⟨q,t,rfl⟩:=strV_r es r1
  refine v1_r eb rs fun x rx=>?_
  show Wp g c (call (.builtin (cond (listBeq u wJoin) "str.join" "str.split")) _) Q w
  cases hj:listBeq u wJoin with
  | true =>
   rw [hj] at e
   refine ob_e (o:=seqOf H b) e fun l el e=>ob_e e fun ss ess e=>gb_e e fun hz e=>and_e hz fun hz1 hz2=>pr_e e fun z1 z2=>?_
   subst z1;subst z2
   have hz1:=Nat.le_of_ble_eq_true hz1
   have hz2:=Nat.le_of_ble_eq_true hz2
   have fits:((ss.map toS).map (·.length)).sum+(ss.map toS).length * (toS s).length≤16777216:=by
    have h1:=intercal_len s ss
    have h2:(ss.map toS).map (·.length)=ss.map (·.length):=by rw [List.map_map];rfl
    rw [h2,show (toS s).length=s.length from rfl,List.length_map]
    exact Nat.le_trans h1 (Nat.le_trans (Nat.add_le_add hz1 hz2) (by decide))
   have fin:∀ {ws:List Value},VRL g w.k l ws→∀ t' k,Q (.str (Txt.join (toS s) (ss.map toS)) t') {w.s with toks:=k}:=fun rl t' k=>by
    rw [join_eq]
    exact P.tik I ⟨intercal_ok q (strs_rel ess rl).2,t',rfl⟩
   exact seqOf_r (P:=fun x=>Wp g c (call (.builtin "str.join") [.str (toS s) t,x]) Q w) el I rx (fun a vs n h rl=>join_list (sq_list h) (strs_rel ess rl).1 fits (fin rl)) fun a vs n h rl=>join_tuple (sq_tuple h) (strs_rel ess rl).1 fits (fin rl)
  | false =>
   rw [hj] at e
   refine gb_e e fun hu e=>ob_e e fun t2 et e=>ob_e e fun ch ec e=>gb_e e fun hz e=>pr_e e fun z1 z2=>?_
   subst z1;subst z2
   obtain ⟨qc,u',rfl⟩:=strV_r et rx
   rw [v1_eq ec]
   refine split_call (Nat.le_of_ble_eq_true hz) fun l hl tk=>?_
   have e2:(splitM ch s).map DV.str=(l.map (·.1)).map fun p=>DV.str p.cps.toList:=by
    rw [hl];unfold splitM;rw [List.map_map];rfl
   rw [e2] at P
   exact P.frz I (Ex.gr (push_gr _ _)).wk (I.gr (push_gr _ _)) (I.new (size_none _)) (size_none _) (push_at _ rfl) (lst_mk ⟨0,frz_at⟩ (strs_drel l (by rw [hl];exact split_ok q)))
 ·have nS:strV a=none:=by rw [locV_eq en];rfl
  rw [nS]
  rw [locV_eq en] at r1
  obtain ⟨d,ed,rfl⟩:=r1
  refine I.R.get (lO_eq el) ed fun ob eo h=>?_
  obtain ⟨ws,cc,rfl,rl⟩:=h
  have hT:w.s.TypeIs (.ref d) "list":=⟨_,eo,rfl⟩
  show Wp g c (call (.builtin (cond (listBeq u wApp) "list.append" (cond (listBeq u wPop) "list.pop" "list.extend"))) _) Q w
  unfold methL at e
  cases ha:listBeq u wApp with
  | true =>
   rw [ha] at e
   refine ob_e (o:=v1 vs) e fun y ey e=>gb_e e fun hz e=>pr_e e fun z1 z2=>?_
   subst z1;subst z2
   refine v1_r ey rs fun x rx=>?_
   show Wp g c (call (.builtin "list.append") _) Q w
   refine call_meets PySem.slot_list_append hT PySem.entry_list_append (PySem.args_list_append _ _) (PySem.list_append d ws.toArray cc x (by rw [List.size_toArray,rl.len];exact szL (Nat.le_trans (Nat.le_add_right _ _) (Nat.le_of_ble_eq_true hz)))) ⟨eo,?_⟩
   exact list_set (f:=fun z=>z.push x) I ed eo (by simp) (rl.app (.one rx)) (v:=.dat .none) (Eq.refl Value.none) P
  | false =>
   rw [ha] at e
   cases hp:listBeq u wPop with
   | true =>
    rw [hp] at e
    refine gb_e e fun hv e=>gb_e e fun hz e=>ob_e e fun y ey e=>pr_e e fun z1 z2=>?_
    subst z1;subst z2
    rw [List.isEmpty_iff.mp hv] at rs
    have rs:xs=[]:=rs
    subst rs
    have hlen:=rl.len
    have hpos:0 < l.length:=List.length_pos_iff.mpr fun q=>by rw [q] at ey;exact nos ey
    obtain ⟨y',hy,ry⟩:=rl.get (n:=l.length - 1) (by rw [← ey,List.getLast?_eq_getElem?])
    refine call_meets F.slot_list_pop hT F.entry_list_pop (F.args_list_pop_1 _) (MeetsSeq.list_pop_last d ws.toArray cc y' (by rw [List.size_toArray,hlen];simpa using hy) (by rw [List.size_toArray,hlen];exact szL (Nat.le_of_ble_eq_true hz))) ⟨eo,?_⟩
    exact list_set (f:=fun xs=>xs.eraseIdxIfInBounds (ws.toArray.size - 1)) I ed eo (erase_last ws (hlen ▸ hpos)) (drop_last rl) ry P
   | false =>
    rw [hp] at e
    refine gb_e e fun hx e=>ob_e e fun y ey e=>ob_e e fun ds eds e=>gb_e e fun hz e=>pr_e e fun z1 z2=>?_
    subst z1;subst z2
    refine v1_r ey rs fun x rx=>?_
    obtain ⟨b,us,rfl,⟨c2,hb⟩,rr⟩:=lstV_r eds rx
    have hz:=Nat.le_of_ble_eq_true hz
    have e1:=rl.len
    have e2:=rr.len
    refine call_meets F.slot_list_extend hT F.entry_list_extend (F.args_list_extend_2 _ _) (AutoSeq1.list_extend_list_list_0 d ws.toArray cc b us.toArray c2 ?_ ?_ ?_) ⟨eo,I.R.fr hb,?_⟩
    ·simp [Builtin.List.listTooLong,sizeLine];omega
    ·rw [List.size_toArray,sizeLine_eq];omega
    ·rw [List.size_toArray,List.size_toArray,sizeLine_eq];omega
    ·exact list_set (f:=fun z=>z++us.toArray) I ed eo (by simp) (rl.app rr) (v:=.dat .none) (Eq.refl Value.none) P
end
end
structure OpsOK (g:Gd) (o:Ops):Prop where
 ev:EvS g o.ev
 cd:CdS g o.cd
 ex:ExS g o.ex
 call:CallC g o.call
 cald:CallD g o.call
 asg:AsgC g o.ev
theorem ops_ok [OpqE] {g:Gd} (G:GdOK g) (T:TokOK g) (hfn:∀ {k fi},g.C.fn k=some fi→FnOK g k fi) (hcon:ConS g) (hcf:∀ {k},(g.C.con k).isSome=true→(g.C.fn k).isSome=true) (n:Nat):OpsOK g (ops g.st.I g.C n):=by
 induction n with
 | zero =>
  unfold ops
  exact ⟨nos,nos,nos,nos,nos,nos⟩
 | succ n ih =>
  have hit:ItemsS g (ops g.st.I g.C n):=items_ok G ih.ev
  rw [ops_s]
  exact ⟨ev_ok G T ih.ev ih.cd (CallC.toS ih.call) ih.cald (prim_ok G) (dict_ok G) methS_ok (comp_ok G ih.ev ih.cd hit) (key_ok G ih.call ih.cald),cd_ok G T ih.ev ih.cd,ex_ok G ih.ev ih.cd ih.ex hit ih.asg,call_ok G hfn hcon ih.ex ih.call,callD_ok hcf,asgC_ok G ih.ev ih.cd hit⟩
section
structure Opq extends OpqE where
 D:Nat→DV
 nn:∀ i,isNoneD (D i)=false
 dep:∀ i,depD (D i)≤20
 eqk:∀ {i j b},eqo i j=some b→PyData.eqv (pyD (D i)) (pyD (D j))=b
@[reducible] noncomputable def opq0:Opq:={eqo:=fun _ _=>none,D:=.opq,nn:=fun _=>rfl,dep:=fun _=>Nat.le_refl _,eqk:=fun e=>nos e}
theorem cg2 {α β γ:Type} {f:α→β→γ} {a a':α} {b b':β} (p:a=a') (q:b=b'):f a b=f a' b':=by rw [p,q]
theorem sub_id (d:DV):subD .opq d=d:=DV.rec (motive_1:=fun d=>subD .opq d=d) (motive_2:=fun l=>subDL .opq l=l) rfl (fun _=>rfl) (fun _=>rfl) (fun _=>rfl) (fun _ h=>congrArg DV.tup h) (fun _ h=>congrArg DV.lst h) (fun _=>rfl) rfl (fun _ _ p q=>cg2 (f:=List.cons) p q) d
theorem put_id (v:AV):putV .opq v=v:=AV.rec (motive_1:=fun v=>putV .opq v=v) (motive_2:=fun l=>putVL .opq l=l) (fun d=>congrArg AV.dat (sub_id d)) (fun _=>rfl) (fun _ _=>rfl) (fun _=>rfl) (fun _ _=>rfl) (fun _=>rfl) (fun _=>rfl) (fun _=>rfl) (fun _ h=>congrArg AV.mix h) rfl rfl (fun _ _ p q=>cg2 (f:=List.cons) p q) v
theorem putL_map (D:Nat→DV) (l:List AV):putVL D l=l.map (putV D):=by
 induction l with
 | nil=>rfl
 | cons a l ih=>exact congrArg (List.cons (putV D a)) ih
noncomputable def putO (D:Nat→DV) (o:AO):AO:=AO.casesOn o (fun l=>.list (putVL D l)) (fun fs=>.ns (fs.map fun x=>(x.1,putV D x.2))) (fun es=>.dict (es.map fun x=>(x.1,putV D x.2))) .lost
theorem LR.mem {α β:Type} {P Q:α→β→Prop} {l:List α}:∀ {vs:List β},(∀ a∈l,∀ v,P a v→Q a v)→LR P l vs→LR Q l vs:=by
 induction l with
 | nil=>exact fun _ r=>r
 | cons a l ih=>exact fun h r=>r.c fun v us p q=>.cons (h a (List.mem_cons_self ..) v p) (ih (fun b z=>h b (List.mem_cons_of_mem _ z)) q)
section
variable {st:St} {C C':Cfg} {D:Nat→DV} {k:Kn} {v v':AV} {x:Value} {l vs:List AV} {xs:List Value} {o:AO} {ob:Obj} {w:Wo} {H H' H0 H1:Hp} {j d n:Nat}
theorem VR_put:VR ⟨st,C',.opq⟩ k (putV D v) x↔VR ⟨st,C,D⟩ k v x:=iff_of_eq (congrArg (fun u=>V0 st k u x) (put_id _))
theorem VRL_put:VRL ⟨st,C',.opq⟩ k (putVL D l) xs↔VRL ⟨st,C,D⟩ k l xs:=by
 rw [putL_map]
 exact LR.map (putV D) |>.trans ⟨LR.mono fun _ _=>VR_put.mp,LR.mono fun _ _=>VR_put.mpr⟩
theorem OO_put:OO ⟨st,C',.opq⟩ k (putO D o) ob↔OO ⟨st,C,D⟩ k o ob:=by
 cases o with
 | list l=>exact ⟨fun ⟨vs,n,e,r⟩=>⟨vs,n,e,VRL_put.mp r⟩,fun ⟨vs,n,e,r⟩=>⟨vs,n,e,VRL_put.mpr r⟩⟩
 | ns fs=>exact ⟨fun ⟨es,n,e,r⟩=>⟨es,n,e,(LR.mono fun _ _ h=>⟨h.1,VR_put.mp h.2⟩) ((LR.map _).mp r)⟩,fun ⟨es,n,e,r⟩=>⟨es,n,e,(LR.map _).mpr ((LR.mono fun _ _ h=>⟨h.1,VR_put.mpr h.2⟩) r)⟩⟩
 | dict kv=>exact ⟨fun ⟨es,e,r⟩=>⟨es,e,(LR.mono fun _ _ h=>⟨h.1,VR_put.mp h.2⟩) ((LR.map _).mp r)⟩,fun ⟨es,e,r⟩=>⟨es,e,(LR.map _).mpr ((LR.mono fun _ _ h=>⟨h.1,VR_put.mpr h.2⟩) r)⟩⟩
 | lost=>exact Iff.rfl
theorem map_get {f:AO→AO} {o:AO} (e:(H.map f)[n]?=some o):∃ o',H[n]?=some o'∧f o'=o:=by
 rw [List.getElem?_map] at e
 exact Option.map_eq_some_iff.mp e
theorem Rep_put (hb:C.base.map (putO D)=C'.base):Rep ⟨st,C',.opq⟩ w (H.map (putO D))↔Rep ⟨st,C,D⟩ w H :=
 ⟨fun R=>⟨fun {n o} e=>let ⟨a,ob,e1,e2,r⟩:=R.obj (n:=n) (o:=putO D o) (by rw [List.getElem?_map,e];rfl);⟨a,ob,e1,e2,OO_put.mp r⟩,fun e=>List.length_map (as:=H) (putO D) ▸ R.dom e,R.inj,R.dj,R.fr,R.G0,
  fun {n o} e=>let ⟨a,ob,e1,e2,e3,r⟩:=R.base (n:=n) (o:=putO D o) (by show C'.base[n]?=_;rw [← hb,List.getElem?_map,show C.base[n]?=some o from e];rfl);⟨a,ob,e1,e2,e3,OO_put.mp r⟩⟩,
  fun R=>⟨fun {n o} e=>by obtain ⟨o',e',rfl⟩:=map_get e;exact let ⟨a,ob,e1,e2,r⟩:=R.obj e';⟨a,ob,e1,e2,OO_put.mpr r⟩,fun e=>by rw [List.length_map];exact R.dom e,R.inj,R.dj,R.fr,R.G0,
  fun {n o} e=>by
   replace e:C'.base[n]?=some o:=e
   rw [← hb] at e
   obtain ⟨o',e',rfl⟩:=map_get e
   exact let ⟨a,ob,e1,e2,e3,r⟩:=R.base e';⟨a,ob,e1,e2,e3,OO_put.mpr r⟩⟩⟩
theorem call_put (hb:C.base.map (putO D)=C'.base):CallG ⟨st,C',.opq⟩ j d (putVL D vs) (H.map (putO D)) (putV D v) (H'.map (putO D))↔CallG ⟨st,C,D⟩ j d vs H v H' :=
 ⟨fun h _ _ _ _ hh hd hu R r P=>h hh hd hu ((Rep_put hb).mpr R) (VRL_put.mpr r) fun w' x X R r=>P w' x X ((Rep_put hb).mp R) (VR_put.mp r),
  fun h _ _ _ _ hh hd hu R r P=>h hh hd hu ((Rep_put hb).mp R) (VRL_put.mp r) fun w' x X R r=>P w' x X ((Rep_put hb).mpr R) (VR_put.mpr r)⟩
noncomputable def renU (ix:List Nat):AV→AV:=AV.rec (motive_2:=fun _=>List AV) .dat (fun j=>.loc (ix.getD j 0)) (fun c j=>.inst c (ix.getD j 0)) .rloc .rinst .fn .cl .pr (fun _ q=>.mix q) .obj [] (fun _ _ p q=>p::q)
noncomputable def renUO (ix:List Nat) (o:AO):AO:=AO.casesOn o (fun l=>.list (l.map (renU ix))) (fun fs=>.ns (fs.map fun x=>(x.1,renU ix x.2))) (fun es=>.dict (es.map fun x=>(x.1,renU ix x.2))) .lost
noncomputable def scpV (n:Nat):AV→Bool:=AV.rec (motive_2:=fun _=>Bool) (fun _=>true) (fun j=>Nat.blt j n) (fun _ j=>Nat.blt j n) (fun _=>true) (fun _ _=>true) (fun _=>true) (fun _=>true) (fun _=>true) (fun _ q=>q) true true (fun _ _ a b=>cond a b false)
noncomputable def scpO (n:Nat) (o:AO):Bool:=AO.casesOn o (fun l=>l.all (scpV n)) (fun fs=>fs.all fun x=>scpV n x.2) (fun es=>es.all fun x=>scpV n x.2) true
variable {g:Gd} {f:Addr→Option Obj} {φ φ':Nat→Option Addr} {ix:List Nat}
theorem ren_eq (h:∀ j,j < n→φ' j=φ (ix.getD j 0)) (v:AV):scpV n v=true→V0 st ⟨f,φ⟩ (putV D (renU ix v))=V0 st ⟨f,φ'⟩ (putV D v) :=
 AV.rec (motive_1:=fun v=>scpV n v=true→V0 st ⟨f,φ⟩ (putV D (renU ix v))=V0 st ⟨f,φ'⟩ (putV D v))
  (motive_2:=fun l=>AV.rec_1 (motive_1:=fun _=>Bool) (fun _=>true) (fun j=>Nat.blt j n) (fun _ j=>Nat.blt j n) (fun _=>true) (fun _ _=>true) (fun _=>true) (fun _=>true) (fun _=>true) (fun _ q=>q) true true (fun _ _ a b=>cond a b false) l=true →
   V0L st ⟨f,φ⟩ (putVL D (AV.rec_1 (motive_1:=fun _=>AV) (motive_2:=fun _=>List AV) .dat (fun j=>.loc (ix.getD j 0)) (fun c j=>.inst c (ix.getD j 0)) .rloc .rinst .fn .cl .pr (fun _ q=>.mix q) .obj [] (fun _ _ p q=>p::q) l))=V0L st ⟨f,φ'⟩ (putVL D l))
  (fun _ _=>rfl) (fun j q=>congrArg refR (h j (Nat.le_of_ble_eq_true q)).symm) (fun c j q=>congrArg (fun o=>instR st ⟨f,φ⟩ c o) (h j (Nat.le_of_ble_eq_true q)).symm) (fun _ _=>rfl) (fun _ _ _=>rfl) (fun _ _=>rfl) (fun _ _=>rfl) (fun _ _=>rfl) (fun _ ih q=>congrArg (SqV "tuple" f) (ih q)) (fun _=>rfl) (fun _=>rfl)
  (fun _ _ p q c=>cond_e c fun c1 c2=>cg2 (f:=consV) (p c1) (q c2)) v
theorem ren_VR (h:∀ j,j < n→φ' j=φ (ix.getD j 0)) (q:scpV n v=true):VR g ⟨f,φ⟩ (renU ix v) x=VR g ⟨f,φ'⟩ v x:=congrFun (ren_eq h v q) x
theorem ren_L (h:∀ j,j < n→φ' j=φ (ix.getD j 0)) (q:l.all (scpV n)=true):VRL g ⟨f,φ⟩ (l.map (renU ix)) xs↔VRL g ⟨f,φ'⟩ l xs :=
 (LR.map _).trans ⟨LR.mem fun a m v r=>ren_VR h (List.all_eq_true.mp q a m) ▸ r,LR.mem fun a m v r=>ren_VR h (List.all_eq_true.mp q a m) ▸ r⟩
theorem ren_O (h:∀ j,j < n→φ' j=φ (ix.getD j 0)) (q:scpO n o=true):OO g ⟨f,φ⟩ (renUO ix o) ob↔OO g ⟨f,φ'⟩ o ob:=by
 cases o with
 | list l=>exact ⟨fun ⟨vs,n,e,r⟩=>⟨vs,n,e,(ren_L h q).mp r⟩,fun ⟨vs,n,e,r⟩=>⟨vs,n,e,(ren_L h q).mpr r⟩⟩
 | ns fs=>exact ⟨fun ⟨es,n,e,r⟩=>⟨es,n,e,(LR.mem fun a m _ z=>⟨z.1,ren_VR h (List.all_eq_true.mp q a m) ▸ z.2⟩) ((LR.map _).mp r)⟩,fun ⟨es,n,e,r⟩=>⟨es,n,e,(LR.map _).mpr ((LR.mem fun a m _ z=>⟨z.1,ren_VR h (List.all_eq_true.mp q a m) ▸ z.2⟩) r)⟩⟩
 | dict kv=>exact ⟨fun ⟨es,e,r⟩=>⟨es,e,(LR.mem fun a m _ z=>⟨z.1,ren_VR h (List.all_eq_true.mp q a m) ▸ z.2⟩) ((LR.map _).mp r)⟩,fun ⟨es,e,r⟩=>⟨es,e,(LR.map _).mpr ((LR.mem fun a m _ z=>⟨z.1,ren_VR h (List.all_eq_true.mp q a m) ▸ z.2⟩) r)⟩⟩
 | lost=>exact Iff.rfl
theorem part_call (h:CallG g j d vs H0 v H1) (hl:ix.length=H0.length) (nd:ix.Nodup) (hH:∀ {i o},H0[i]?=some o→H[ix.getD i 0]?=some (renUO ix o)) (hs:H0.all (scpO H0.length)=true) (hvs:vs.all (scpV H0.length)=true) (hL:H'.length=H.length)
  (hn:∀ {m o},H'[m]?=some o→o=.lost∨(H[m]?=some o∧∀ {i},i < H0.length→ix.getD i 0=m→H1[i]?=H0[i]?)) (hv:∀ {k k':Kn} {x},k'.f=k.f→(∀ i,i < H0.length→k.φ i=k'.φ (ix.getD i 0))→VR g k v x→VR g k' v' x):CallG g j d (vs.map (renU ix)) H v' H':=fun {A w R xs} hh hd hu Rp rv P=>by
 let φ0:Nat→Option Addr:=fun i=>if i < ix.length then w.k.φ (ix.getD i 0) else none
 have e0:∀ i,i < H0.length→φ0 i=w.k.φ (ix.getD i 0):=fun i q=>if_pos (hl ▸ q)
 have dom0:∀ {i a},φ0 i=some a→i < H0.length∧w.k.φ (ix.getD i 0)=some a:=fun {i a} e=>by
  by_cases q:i < ix.length
  ·exact ⟨hl ▸ q,(if_pos q).symm.trans e⟩
  ·exact nos ((if_neg q).symm.trans e)
 have scp:∀ {i o},H0[i]?=some o→scpO H0.length o=true:=fun e=>List.all_eq_true.mp hs _ (List.mem_of_getElem? e)
 have R0:Rep g ⟨⟨w.k.f,φ0⟩,w.s⟩ H0:=⟨fun {i o} e=>by
   obtain ⟨a,ob,e1,e2,r⟩:=Rp.obj (hH e)
   exact ⟨a,ob,(e0 i (List.getElem?_eq_some_iff.mp e).1).trans e1,e2,(ren_O e0 (scp e)).mp r⟩,fun e=>(dom0 e).1,fun {i i' a} e e'=>by
   obtain ⟨q,e⟩:=dom0 e
   obtain ⟨q',e'⟩:=dom0 e'
   have z:=Rp.inj e e'
   rw [← hl] at q q'
   rw [List.getD_eq_getElem?_getD,List.getD_eq_getElem?_getD,List.getElem?_eq_getElem q,List.getElem?_eq_getElem q'] at z
   have ne:=List.pairwise_iff_getElem.mp nd
   exact Nat.le_antisymm (Nat.le_of_not_lt fun l=>ne _ _ q' q l (Eq.symm z)) (Nat.le_of_not_lt fun l=>ne _ _ q q' l z),fun e=>Rp.dj (dom0 e).2,Rp.fr,Rp.G0,Rp.base⟩
 refine h (w:=⟨⟨w.k.f,φ0⟩,w.s⟩) hh hd hu R0 ((ren_L e0 hvs).mp rv) fun w' x X R' r=>?_
 have e1:∀ i,i < H0.length→w'.k.φ i=w.k.φ (ix.getD i 0):=fun i q=>by
  obtain ⟨a,ob,z,_⟩:=R0.obj (List.getElem?_eq_getElem q)
  exact (X.u.φ z).trans (z.symm.trans (e0 i q))
 have u:KLe w.k ⟨w'.k.f,w.k.φ⟩:=⟨X.u.f,fun e=>e⟩
 refine P ⟨⟨w'.k.f,w.k.φ⟩,w'.s⟩ x ⟨X.sh,X.ex,fun n1 n2 e=>X.keep (fun i q=>n1 _ (dom0 q).2) n2 e,u,X.nf,.inl⟩ ⟨fun {m o} e=>?_,fun e=>hL ▸ Rp.dom e,Rp.inj,fun {n a} e=>nn_none fun ⟨o,q⟩=>(X.nf q).elim (fun z=>nos ((Rp.dj e).symm.trans z)) fun z=>(Rp.at_ e).elim fun o' e'=>nos (z.symm.trans e'),R'.fr,R'.G0,R'.base⟩ (hv (k:=w'.k) rfl e1 r)
 have hm:m < H.length:=hL ▸ (List.getElem?_eq_some_iff.mp e).1
 obtain ⟨a,ob,z1,z2,r0⟩:=Rp.obj (List.getElem?_eq_getElem hm)
 rcases hn e with rfl | ⟨e',hj⟩
 ·obtain ⟨ob',z⟩:=nn_of fun q:w'.h a=none=>nos ((X.ex q).symm.trans z2)
  exact ⟨a,ob',z1,z,trivial⟩
 ·rw [List.getElem?_eq_getElem hm] at e'
  have e':=Option.some.inj e'
  subst e'
  by_cases q:∃ i,i < H0.length∧ix.getD i 0=m
  ·obtain ⟨i,q1,q2⟩:=q
   have hi:=List.getElem?_eq_getElem q1
   obtain ⟨a',ob',y1,y2,r'⟩:=R'.obj ((hj q1 q2).trans hi)
   have h0:=hH hi
   rw [q2,List.getElem?_eq_getElem hm] at h0
   rw [Option.some.inj h0]
   exact ⟨a',ob',q2 ▸ (e1 i q1).symm.trans y1,y2,(ren_O (f:=w'.k.f) (φ:=w.k.φ) (φ':=w'.k.φ) e1 (scp hi)).mpr r'⟩
  ·exact ⟨a,ob,z1,X.keep (fun i z=>q ⟨i,(dom0 z).1,Rp.inj (dom0 z).2 z1⟩) id z2,r0.up u⟩
theorem CallG.mono {d':Nat} (h:CallG g j d vs H v H') (hd:d≤d'):CallG g j d' vs H v H':=fun hh h1 h2=>h hh (by omega) (by omega)
noncomputable def outV (v:AV):AV:=cond ((locV v).isSome||(instV v).isSome) .obj v
theorem out_rel {k k':Kn} (hc:closedV (outV v)=true) (e:k'.f=k.f) (r:VR g k v x):VR g k' (outV v) x:=by
 cases v with
 | loc=>obtain ⟨a,_,rfl⟩:=r;exact ⟨a,rfl⟩
 | inst=>obtain ⟨a,_,rfl,_⟩:=r;exact ⟨a,rfl⟩
 | _=>exact closed_up e hc r
end
end
section
section
variable {β:Type}
theorem lookup_app (l k:List (Str×β)) (n:Str):(l++k).lookup n=(l.lookup n).or (k.lookup n):=List.lookup_append
noncomputable def addNew (s:List (Str×β)) (x:Str×β):List (Str×β):=if (s.lookup x.1).isNone then s++[x] else s
theorem lookFold (n:Str):∀ (L s:List (Str×β)),(L.foldl addNew s).lookup n=(s.lookup n).or (L.lookup n)
 | [],s=>by simp
 | x::L,s=>by
  rw [List.foldl_cons,lookFold n L]
  unfold addNew
  obtain ⟨a,b⟩:=x
  by_cases h:(s.lookup a).isNone=true
  ·rw [if_pos h,lookup_app]
   by_cases e:n=a
   ·subst e
    rw [Option.isNone_iff_eq_none.mp h];simp
   ·have:(n==a)=false:=by simpa using e
    simp [List.lookup_cons,this]
  ·rw [if_neg h]
   by_cases e:n=a
   ·subst e
    cases q:s.lookup n with
    | none=>rw [q] at h;exact absurd rfl h
    | some v=>simp
   ·have:(n==a)=false:=by simpa using e
    simp [List.lookup_cons,this]
theorem zip_look:∀ {ns:List Str} {vs:List β} {i:Nat} {n:Str},ns.Nodup→ns[i]?=some n→(ns.zip vs).lookup n=vs[i]?
 | [],_,i,n,_,e=>by simp at e
 | a::ns,[],i,n,_,e=>by simp
 | a::ns,v::vs,0,n,_,e=>by simp at e;subst e;simp
 | a::ns,v::vs,i+1,n,nd,e=>by
  rw [List.nodup_cons] at nd
  have e':ns[i]?=some n:=by simpa using e
  have:n≠a:=fun q=>nd.1 (q ▸ List.mem_of_getElem? e')
  have h:(n==a)=false:=by simpa using this
  rw [List.zip_cons_cons,List.lookup_cons,h]
  exact zip_look nd.2 e'
theorem zip_none:∀ {ns:List Str} {vs:List β} {n:Str},n∉ns→(ns.zip vs).lookup n=none
 | [],_,_,_=>by simp
 | _::_,[],_,_=>by simp
 | a::ns,v::vs,n,h=>by
  have hne:n≠a:=fun q=>h (by rw [q];exact List.mem_cons_self ..)
  have:(n==a)=false:=by simpa using hne
  rw [List.zip_cons_cons,List.lookup_cons,this]
  exact zip_none fun q=>h (List.mem_cons_of_mem _ q)
theorem filt_zip {f:Str→Option β}:∀ {ns:List Str} {vs:List β},ns.length=vs.length→(∀ (i:Nat) (n:Str),ns[i]?=some n→f n=vs[i]?)→(ns.filterMap fun n=>(f n).map (n,·))=ns.zip vs
 | [],[],_,_=>rfl
 | a::ns,v::vs,hl,h=>by
  have h0:f a=some v:=h 0 a rfl
  rw [List.filterMap_cons,h0,List.zip_cons_cons]
  show (a,v)::_=_
  rw [filt_zip (by simpa using hl) fun i n e=>h (i+1) n (by simpa using e)]
theorem bind_vals {ns:List Str} {rvs ds:List β} (nd:ns.Nodup) (h1:rvs.length≤ns.length) (h2:ds.length≤ns.length) (h3:ns.length≤rvs.length+ds.length) :
  (ns.filterMap fun n=>((((ns.drop (ns.length - ds.length)).zip ds).foldl addNew (ns.zip rvs)).lookup n).map (n,·))=ns.zip (rvs++ds.drop (rvs.length+ds.length - ns.length)):=by
 refine filt_zip (by simp;omega) fun i n e=>?_
 have hi:i < ns.length:=(List.getElem?_eq_some_iff.mp e).1
 rw [lookFold,zip_look nd e]
 by_cases q:i < rvs.length
 ·rw [List.getElem?_append_left q,List.getElem?_eq_getElem q];rfl
 ·rw [List.getElem?_eq_none (by omega),List.getElem?_append_right (by omega),List.getElem?_drop]
  have:(ns.drop (ns.length - ds.length))[i - (ns.length - ds.length)]?=some n:=by
   rw [List.getElem?_drop,show ns.length - ds.length+(i - (ns.length - ds.length))=i by omega];exact e
  rw [zip_look (nd.sublist (List.drop_sublist ..)) this]
  show ds[_]?=_
  congr 1
  omega
end
theorem forIn_fold {β σ:Type} {f:β→σ→Sem (ForInStep σ)} {g:σ→β→σ} (h:∀ x s,f x s=pure (.yield (g s x))):∀ (L:List β) (s:σ),(forIn L s f:Sem σ)=pure (L.foldl g s)
 | [],s=>rfl
 | x::L,s=>by
  rw [List.forIn_cons,h]
  show (forIn L (g s x) f:Sem σ)=_
  rw [forIn_fold h L];rfl
theorem binds_gen' {fd:FuncData} {names:List Str} {rvs:List Value} (h1:fd.params.posonlyargs.map (·.arg)=[]) (h2:fd.params.args.map (·.arg)=names) (h3:fd.params.kwonlyargs.map (·.arg)=[]) (h4:fd.params.vararg=none) (h5:fd.params.kwarg=none)
  (nd:names.Nodup) (hl:rvs.length≤names.length):∃ k,bindArgs fd ⟨rvs,[]⟩=seqItems? fd.defaults >>= k ∧
   ∀ d:Option (Array Value),(d.getD #[]).toList.length≤names.length→names.length≤rvs.length+(d.getD #[]).toList.length→k d=pure (names.zip (rvs++(d.getD #[]).toList.drop (rvs.length+(d.getD #[]).toList.length - names.length))):=by
 unfold bindArgs
 simp only [h1,h2,h3,h4,h5,List.nil_append,List.append_nil,List.forIn_nil]
 refine ⟨_,rfl,fun d e1 e2=>?_⟩
 have hl':¬ (rvs.length > names.length):=by omega
 have hm:(List.filter (fun n=>(List.lookup n (names.zip rvs)).isNone) (names.take (names.length - ((d.getD #[]).toList.drop ((d.getD #[]).toList.length - names.length)).length)))=[]:=by
  rw [List.filter_eq_nil_iff]
  intro n hn
  obtain ⟨i,hi⟩:=List.mem_iff_getElem?.mp hn
  rw [List.getElem?_take] at hi
  split at hi
  ·rename_i q
   rw [List.length_drop] at q
   rw [zip_look nd hi,List.getElem?_eq_getElem (by omega)];simp
  ·cases hi
 have hd0:(d.getD #[]).toList.length - names.length=0:=by omega
 simp only [hm,hl',decide_false,Bool.false_and,Bool.false_eq_true,if_false,List.isEmpty_nil,Bool.not_true]
 rw [hd0,List.drop_zero]
 rw [forIn_fold (g:=addNew) fun x s=>by unfold addNew;split <;> rfl]
 show (pure (names.filterMap fun n=>((((names.drop (names.length - (d.getD #[]).toList.length)).zip (d.getD #[]).toList).foldl addNew (names.zip rvs)).lookup n).map (n,·)):Sem (List (Str×Value)))=_
 rw [bind_vals nd hl e1 e2]
end
theorem rdLs_ok {F:Value→Option DV} {f:Addr→Option Obj} {D:Nat→DV} (h:∀ v d,F v=some d→DR f (subD D d) v) (l:List Value):∀ ds,rdLs F l=some ds→DRL f (subDL D ds) l:=by
 induction l with
 | nil=>exact fun ds e=>by rw [← Option.some.inj e];exact Eq.refl []
 | cons v r ih=>exact fun ds e=>ob_e (o:=F v) e fun d ed e=>ob_e e fun l el e=>by rw [← Option.some.inj e];exact ⟨v,r,rfl,h v d ed,ih l el⟩
theorem rd_ok {K:Frag} {f:Addr→Option Obj} {D:Nat→DV} (X:∀ {a o},K.lookup a=some o→f a=some o) (n:Nat):∀ v d,rdK K n v=some d→DR f (subD D d) v:=by
 induction n with
 | zero=>exact fun v d e=>nos e
 | succ n ih =>
  intro v d e
  unfold rdK at e
  split at e
  ·rw [← Option.some.inj e];exact Eq.refl Value.none
  ·rw [← Option.some.inj e];exact Eq.refl (Value.bool _)
  ·rw [← Option.some.inj e];exact ⟨_,rfl⟩
  ·split at e
   ·rename_i s t _ q;rw [← Option.some.inj e];exact ⟨q,t,rfl⟩
   ·exact nos e
  ·split at e
   ·rename_i a _ t vs k sl q
    split at e
    ·rename_i ht hs
     refine ob_e (o:=rdLs (rdK K n) vs.toList) e fun l hl e=>?_
     rw [← Option.some.inj e]
     have ht:t = "tuple":=by simpa using ht
     have hs:sl=#[]:=by cases sl;simp at hs;rw [hs]
     subst ht;subst hs
     exact ⟨a,vs.toList,rfl,⟨k,X q⟩,rdLs_ok ih _ l hl⟩
    ·exact nos e
   ·exact nos e
  ·exact nos e
theorem bindP_len {ps:List Nat}:∀ {ds:List DV} {vs:List AV} {bs:List (Nat×AV)},bindP ps ds vs=some bs→vs.length≤ps.length∧ps.length≤vs.length+ds.length∧bs.map (·.2)=vs++datL (ds.drop (vs.length+ds.length - ps.length)):=by
 induction ps with
 | nil =>
  exact fun {ds vs bs} e=>gb_e e fun z e=>by
   rw [← Option.some.inj e,List.isEmpty_iff.mp z]
   refine ⟨Nat.le_refl _,Nat.zero_le _,?_⟩
   show []=datL (ds.drop (0+ds.length - 0))
   rw [Nat.zero_add,Nat.sub_zero,List.drop_length];rfl
 | cons p ps ih =>
  intro ds vs bs e
  cases vs with
  | cons v vs =>
   refine ob_e (o:=bindP ps ds vs) e fun r er e=>?_
   rw [← Option.some.inj e]
   obtain ⟨h1,h2,h3⟩:=ih er
   refine ⟨Nat.succ_le_succ h1,?_,?_⟩
   ·rw [List.length_cons,List.length_cons,Nat.succ_add];exact Nat.succ_le_succ h2
   ·rw [List.map_cons,h3,List.length_cons,List.length_cons,Nat.succ_add,Nat.succ_sub_succ];rfl
  | nil =>
   replace e:(List.rec none (fun d ds _=>ob (bindP ps ds []) fun r=>some ((p,.dat d)::r)) (cond (le (ps.length+1) ds.length) (ds.drop (ds.length - (ps.length+1))) []):Option (List (Nat×AV)))=some bs:=e
   cases hb:le (ps.length+1) ds.length with
   | false=>rw [hb] at e;exact nos e
   | true =>
    rw [hb] at e
    have hb:=Nat.le_of_ble_eq_true hb
    replace e:(List.rec none (fun d ds _=>ob (bindP ps ds []) fun r=>some ((p,.dat d)::r)) (ds.drop (ds.length - (ps.length+1))):Option (List (Nat×AV)))=some bs:=e
    cases hd:ds.drop (ds.length - (ps.length+1)) with
    | nil=>rw [hd] at e;exact nos e
    | cons d ds' =>
     rw [hd] at e
     refine ob_e (o:=bindP ps ds' []) e fun r er e=>?_
     rw [← Option.some.inj e]
     obtain ⟨h1,h2,h3⟩:=ih er
     have hl:ds'.length=ps.length:=by
      have:=congrArg List.length hd
      rw [List.length_drop,List.length_cons] at this;omega
     refine ⟨Nat.zero_le _,by rw [List.length_nil,Nat.zero_add];exact hb,?_⟩
     rw [List.map_cons,h3,List.length_nil,List.length_cons,Nat.zero_add,Nat.zero_add,hd,hl,Nat.sub_self]
     rfl
theorem LR.drop {α β:Type} {P:α→β→Prop} {l:List α}:∀ {vs:List β} (n:Nat),LR P l vs→LR P (l.drop n) (vs.drop n):=by
 induction l with
 | nil=>exact fun n r=>by rw [show _=[] from r,List.drop_nil,List.drop_nil];exact Eq.refl []
 | cons a l ih =>
  intro vs n r
  cases n with
  | zero=>exact r
  | succ n=>obtain ⟨v,us,rfl,p,r⟩:=r;exact ih n r
theorem nodup_map {N:Nat→Str} (inj:∀ {i j},N i=N j→i=j):∀ {l:List Nat},l.Nodup→(l.map N).Nodup
 | [],_=>by simp
 | a::l,h=>by
  rw [List.nodup_cons] at h
  rw [List.map_cons,List.nodup_cons]
  refine ⟨fun q=>?_,nodup_map inj h.2⟩
  obtain ⟨b,hb,e⟩:=List.mem_map.mp q
  exact h.1 (inj e ▸ hb)
theorem fnOK_of {g:Gd} {k:Nat} {fi:FnI} (hN:∀ {i j},g.N i=g.N j→i=j) (kin:g.st.K.In g.st.G0) (e:obsFn g.st.K (g.st.fnA k)=wantFn g.N fi) (nd:distN (fi.sc.map (·.1))=true) (nf:∀ i,lookN fi.sc i≠some .free)
  (prm:∀ p∈fi.ps,lookN fi.sc p=some .local∨lookN fi.sc p=some .cell) (pnd:fi.ps.Nodup) (dl:fi.dfl.length≤fi.ps.length):FnOK g k fi:=by
 refine ⟨?_,nd,nf,prm,pnd⟩
 unfold obsFn wantFn at e
 split at e
 ·rename_i oc od fd osl q
  simp only [Option.some.injEq,Prod.mk.injEq] at e
  obtain ⟨⟨e1,e2,e3,e4,e5⟩,e6,⟨s1,s2,s3,s4⟩,⟨e8,e9,e10⟩,e11,e12⟩:=e
  obtain ⟨name,qual,params,body,⟨sk,sn,sg,sco,mr⟩,globals,closure,dV,kV,doc,pm,an,cdv,ct,bt⟩:=fd
  simp only at e1 e2 e3 e4 e5 e6 s1 s2 s3 s4 e8 e9 e10 e11 e12
  subst e6;subst s1;subst s2;subst s3;subst s4;subst e8;subst e9;subst e10
  refine ⟨mr,oc,od,osl,name,qual,params,dV,kV,doc,pm,an,cdv,ct,q,e11,fun s {k vs bs rvs} gr ge hb rv=>?_⟩
  have X:g.st.K.In s.heap:=kin.keeps gr
  obtain ⟨l1,l2,l3⟩:=bindP_len hb
  have lv:=rv.len
  obtain ⟨kk,hk,hk'⟩:=binds_gen' (fd:=fnX name qual params (untrSs g.N fi.body) (scM g.N fi.sc mr) [] dV kV doc pm an cdv ct) (names:=fi.ps.map g.N) (rvs:=rvs) e1 e2 e3 (Option.map_eq_none_iff.mp e4) (Option.map_eq_none_iff.mp e5) (nodup_map hN pnd) (by rw [List.length_map];omega)
  unfold obsFn.dfl at e12
  split at e12
  ·have e12:=Option.some.inj e12
   rw [← e12] at l3 l2
   refine ⟨rvs,?_,BindsTo.of_eq ?_⟩
   ·rw [l3,List.drop_nil,show datL []=[] from rfl,List.append_nil];exact rv
   ·have:=hk' none (by simp) (by simp at l2 ⊢;omega)
    rw [hk]
    show kk none=_
    rw [this]
    simp
  ·split at e12
   ·rename_i T _ _ items n _ hT
    have rd:VRL g k (datL fi.dfl) items.toList:=datL_of.mp (rdLs_ok (f:=k.f) (D:=g.D) (rd_ok (fun e=>ge (kin _ _ e)) 6) _ _ e12)
    have rl:items.toList.length=fi.dfl.length:=by have:=rd.len;rwa [datL,List.length_map] at this
    refine ⟨rvs++items.toList.drop (rvs.length+items.toList.length - fi.ps.length),?_,BindsTo.of_defaults rfl (X _ _ hT) rfl hk ?_⟩
    ·rw [l3,lv,rl]
     refine rv.app ?_
     rw [show datL (fi.dfl.drop (vs.length+fi.dfl.length - fi.ps.length))=(datL fi.dfl).drop (vs.length+fi.dfl.length - fi.ps.length) from List.map_drop]
     exact LR.drop _ rd
    ·have:=hk' (some items) (by show items.toList.length≤_;rw [rl,List.length_map];exact dl) (by show _≤_+items.toList.length;rw [rl,List.length_map];omega)
     rw [this,List.length_map];rfl
   ·exact nos e12
  ·exact nos e12
 ·exact nos e
section
section
variable {g:St} {p:Program} {lo:List Str} {mg mb:Str→Option Value}
theorem glob_K (T:TopRead p lo mg mb g.G0) (kin:g.K.In g.G0) {i:Nat} {v:Value} (e:nsIn g.K mainGlobals (g.N i)=some (some v)) (hd:(g.N i==("__debug__":Str))=false):GlobAt g i v :=
 fun A E s Q env pos hk hg hb hko gr h=>Name_function_global hk hko (loadGlobal_global (env:=env) (hg ▸ T.g.keeps gr) (mg_of kin T.g e) h) hd
theorem glob_B (T:TopRead p lo mg mb g.G0) (kin:g.K.In g.G0) {i:Nat} {v:Value} (e:nsIn g.K mainGlobals (g.N i)=some none) (hv:bootBuiltins (g.N i)=some v) (hn:g.N i ≠ "__name__") (hd:(g.N i==("__debug__":Str))=false):GlobAt g i v :=
 fun A E s Q env pos hk hg hb hko gr h=>Name_function_global hk hko (loadGlobal_builtin (env:=env) (hg ▸ T.g.keeps gr) (mg_none_of kin T.g e) (hb ▸ T.b.keeps gr) ((T.builtins _ hn).trans hv) h) hd
end
theorem cd_all {P:List Nat→Bool} (h1:cdT.all P=true) (h2:∀ i,P (List.replicate (i+1) 1000000)=true) (i:Nat):P (cdC i)=true:=by
 unfold cdC
 split
 ·rename_i s e
  exact List.all_eq_true.mp h1 s (List.mem_of_getElem? e)
 ·exact h2 i
noncomputable def distL (l:List (List Nat)):Bool:=lrec true (fun a l q=>l.all (fun b=>!listBeq a b)&&q) l
theorem distL_inj {l:List (List Nat)}:distL l=true→∀ {i j:Nat} {s:List Nat},l[i]?=some s→l[j]?=some s→i=j:=by
 induction l with
 | nil=>exact fun _ {_ _ _} e _=>nos e
 | cons a l ih =>
  exact fun h {i j s} e e'=>and_e h fun h1 h2=>by
   have no:∀ {k},l[k]?=some a→False:=fun q=>by
    have z:=List.all_eq_true.mp h1 a (List.mem_of_getElem? q)
    rw [lb_iff.mpr rfl] at z;exact nft z
   cases i with
   | zero =>
    rw [← Option.some.inj e] at e'
    cases j with
    | zero=>rfl
    | succ j=>exact (no e').elim
   | succ i =>
    cases j with
    | zero=>rw [← Option.some.inj e'] at e;exact (no e).elim
    | succ j=>exact congrArg Nat.succ (ih h2 e e')
theorem cd_dist:distL cdT=true:=by decide +kernel
theorem cd_low:cdT.all (fun l=>match l with | a::_=>Nat.blt a 1000000 | []=>true)=true:=by decide +kernel
theorem nC_inj {i j:Nat} (h:nC i=nC j):i=j:=by
 have h:=toS_inj h
 unfold cdC at h
 cases hi:cdT[i]? with
 | some s =>
  cases hj:cdT[j]? with
  | some t=>rw [hi,hj] at h;simp only at h;subst h;exact distL_inj cd_dist hi hj
  | none =>
   rw [hi,hj] at h;simp only at h;subst h
   have:=List.all_eq_true.mp cd_low _ (List.mem_of_getElem? hi)
   rw [List.replicate_succ] at this;cases this
 | none =>
  cases hj:cdT[j]? with
  | some t =>
   rw [hi,hj] at h;simp only at h;subst h
   have:=List.all_eq_true.mp cd_low _ (List.mem_of_getElem? hj)
   rw [List.replicate_succ] at this;cases this
  | none=>rw [hi,hj] at h;simp only at h;have:=congrArg List.length h;simpa using this
theorem nC_ne {s:List Nat} (h1:cdT.all (fun l=>!listBeq l s)=true) (h2:∀ i,listBeq (List.replicate (i+1) 1000000) s=false) (i:Nat):(nC i==toS s)=false:=by
 have:=cd_all (P:=fun l=>!listBeq l s) h1 (fun i=>by rw [h2];rfl) i
 unfold nC
 rw [lb_toS];simpa using this
theorem ofS (s:String) (l:List Nat) (h:Str.ofString s=toS l):Str.ofString s=toS l:=h
theorem nC_dbg (i:Nat):(nC i==("__debug__":Str))=false:=by
 have:("__debug__":Str)=toS [95,95,100,101,98,117,103,95,95]:=by rfl
 rw [this];exact nC_ne (by decide +kernel) (fun i=>by rfl) i
theorem nC_cdj (i:Nat):(nC i==("__classdict__":Str))=false:=by
 have:("__classdict__":Str)=toS [95,95,99,108,97,115,115,100,105,99,116,95,95]:=by rfl
 rw [this];exact nC_ne (by decide +kernel) (fun i=>by rfl) i
theorem nC_nam (i:Nat):nC i≠("__name__":Str):=by
 have:("__name__":Str)=toS [95,95,110,97,109,101,95,95]:=by rfl
 rw [this]
 have:=nC_ne (s:=[95,95,110,97,109,101,95,95]) (by decide +kernel) (fun i=>by rfl) i
 simpa using this
theorem nC_cdo (i:Nat):strOK (cdC i)=true:=by
 have:=cd_all (P:=fun l=>l.all (· < 0x110000)) (by decide +kernel) (fun i=>by simp) i
 unfold strOK toS;simpa using this
noncomputable def glC (i:Nat):Option AV:=lookN glT i
noncomputable def cfg (base:List AO) (con:Nat→Option (Nat×(List AV→Hp→Option (AV×Hp)))):Cfg:={cd:=cdC,gl:=glC,fn:=fun k=>fnT[k]?,cl:=fun k=>clT[k]?,base,con}
noncomputable abbrev Con:=Nat→Option (Nat×(List AV→Hp→Option (AV×Hp)))
noncomputable def stOf (w:World) (h:Heap) (K:Frag) (φb:Nat→Option Addr):St:={prog:=pg,w,G0:=h,N:=nC,fnA,clA,φb,K,I:=itN}
noncomputable abbrev gdOf (w:World) (h:Heap) (K:Frag) (φb:Nat→Option Addr) (base:List AO) (con:Con) (D:Nat→DV):Gd:=⟨stOf w h K φb,cfg base con,D⟩
theorem frg_in (h:Heap):(frg h).In h:=by
 intro a o e
 have:∀ l:List Nat,(l.filterMap fun a=>(h.get? a).map fun o=>(a,o)).lookup a=some o→h.get? a=some o:=by
  intro l
  induction l with
  | nil=>exact fun e=>nos e
  | cons b r ih =>
   intro e
   rw [List.filterMap_cons] at e
   cases hb:h.get? b with
   | none=>rw [hb] at e;exact ih e
   | some ob =>
    rw [hb] at e
    replace e:(match a==b with | true=>some ob | false=>_)=some o:=e
    cases q:a==b with
    | true=>rw [q] at e;rw [beq_iff_eq.mp q,hb];exact e
    | false=>rw [q] at e;exact ih e
 exact this _ e
noncomputable def KOK (K:Frag):Prop:=(tAll K,fnAT.map (obsFn K),glT.map (obsGl K))=want
theorem memN_mem {l:List Nat} {i:Nat} (h:memN l i=true):i∈l:=by
 induction l with
 | nil=>exact nft h
 | cons j r ih =>
  replace h:cond (Nat.beq j i) true (memN r i)=true:=h
  cases q:Nat.beq j i with
  | true=>rw [Nat.eq_of_beq_eq_true q];exact List.mem_cons_self ..
  | false=>rw [q] at h;exact List.mem_cons_of_mem _ (ih h)
theorem map_at {α β:Type} {f g:α→β} {l:List α} (e:l.map f=l.map g) {x:α} (h:x∈l):f x=g x:=List.map_inj_left.mp e x h
section
variable {w:World} {h:Heap} {K:Frag} {mg mb:Str→Option Value} {φb:Nat→Option Addr} {base:List AO} {con:Con} {D:Nat→DV} {p:Program} {lo:List Str}
theorem boots:glT.all (fun x=>match x.2 with | .pr k=>decide (bootBuiltins (nC x.1)=some (pkV k)) | _=>true)=true:=by decide +kernel
theorem boot3:bootBuiltins (nC itN.range)=some (.type "range")∧bootBuiltins (nC itN.zip)=some (.type "zip")∧bootBuiltins (nC itN.enum)=some (.type "enumerate"):=by decide +kernel
theorem kok_all (k:KOK K):tAll K=true:=congrArg Prod.fst k
theorem kok_fn (k:KOK K):fnAT.map (obsFn K)=fnT.map (wantFn nC):=congrArg (fun x=>x.2.1) k
theorem kok_gl (k:KOK K):glT.map (obsGl K)=glT.map wantGl:=congrArg (fun x=>x.2.2) k
theorem fn_len:fnAT.length=fnT.length:=by decide +kernel
theorem kok_fn1 (k:KOK K) {i:Nat} {fi:FnI} (e:fnT[i]?=some fi):obsFn K (fnA i)=wantFn nC fi:=by
 have h:=kok_fn k
 have hl:i < fnAT.length:=by rw [fn_len];exact (List.getElem?_eq_some_iff.mp e).1
 have h1:(fnAT.map (obsFn K))[i]?=(fnT.map (wantFn nC))[i]?:=by rw [h]
 rw [List.getElem?_map,List.getElem?_map,e,List.getElem?_eq_getElem hl] at h1
 unfold fnA
 rw [List.getElem?_eq_getElem hl]
 exact Option.some.inj h1
theorem cls_of (k:KOK K) {c:Nat} {ci:ClI} (e:clT[c]?=some ci):tCls K c ci=true:=by
 have h:=kok_all k
 unfold tAll at h
 rw [Bool.and_eq_true] at h
 have hc:c < 5:=(List.getElem?_eq_some_iff.mp e).1
 have:=List.all_eq_true.mp h.1 c (List.mem_range.mpr hc)
 rw [e] at this;exact this
theorem att_of {C:Addr} {nm:Str} (t:tAtt K C nm=true):plainGet K C nm=true∧hasDictIn K C=true∧(∃ a,findIn K (.ref C) nm=some a∧noGet K a=true) ∧
  findIn K (.ref C) "__setattr__" = some (some (.builtin "object.__setattr__"))∧plainOver K C=true∧takerIn K C nm=some none:=by
 unfold tAtt at t
 simp only [Bool.and_eq_true,beq_iff_eq] at t
 obtain ⟨a,b,c,d,e,f⟩:=t
 refine ⟨a,b,?_,d,e,f⟩
 split at c
 ·rename_i v hv;exact ⟨v,hv,c⟩
 ·cases c
theorem met_of {C:Addr} {nm:Str} {f:Addr} (t:tMet K C nm f=true):plainGet K C nm=true∧findIn K (.ref C) nm=some (some (.ref f))∧isFn K (.ref f)=true:=by
 unfold tMet at t
 simp only [Bool.and_eq_true,beq_iff_eq] at t
 exact t
theorem gdOK_of (X:K.In h) (k:KOK K) (T:TopRead p lo mg mb h):GdOK (gdOf w h K φb base con D):=by
 have hA:=kok_all k
 unfold tAll at hA
 simp only [Bool.and_eq_true,beq_iff_eq] at hA
 obtain ⟨-,hkf,hr,hz,he,hs⟩:=hA
 have cls:∀ {c ci},clT[c]?=some ci→tMak K (clA c) (fnA ci.init)=true∧keepIn K (.ref (clA c))=true∧(ci.meths.all (fun m=>tMet K (clA c) (nC m.1) (fnA m.2)))=true∧(ci.attrs.all (fun a=>tAtt K (clA c) (nC a)))=true:=fun ec=>by
  have t:=cls_of k ec
  unfold tCls at t
  simp only [Bool.and_eq_true] at t
  exact t
 refine ⟨fun {x} q=>?_,nC_inj,nC_dbg,nC_cdj,fun i=>rfl,nC_cdo,fun {i v} e=>?_,glob_B T X hr boot3.1 (nC_nam _) (nC_dbg _),glob_B T X hz boot3.2.1 (nC_nam _) (nC_dbg _),glob_B T X he boot3.2.2 (nC_nam _) (nC_dbg _),X,T.nolimit,fun {c nm} ha=>?_,fun ec em=>met_of (List.all_eq_true.mp (cls ec).2.2.1 (_,_) (lookN_mem em)),fun ec=>?_,fun {i} q=>?_,fun {c} q=>?_⟩
 ·obtain ⟨o,ho⟩:=Option.isSome_iff_exists.mp hs
  have:=X _ _ ho
  exact beq_eq_false_iff_ne.mpr fun hx=>nos (q.symm.trans (hx ▸ this))
 ·have hm:(i,v)∈glT:=lookN_mem e
  have ho:=map_at (kok_gl k) hm
  have hb:=List.all_eq_true.mp boots _ hm
  unfold obsGl wantGl at ho
  cases v with
  | dat d =>
   have ho:=congrArg Prod.snd ho
   dsimp only at ho
   split at ho
   ·rename_i rv hrv
    exact ⟨rv,glob_K T X hrv (nC_dbg _),fun {k'} ge=>rd_ok (K:=K) (fun e=>ge (X _ _ e)) 8 rv d ho⟩
   ·exact nos ho
  | fn j=>exact ⟨_,glob_K T X (congrArg Prod.fst ho) (nC_dbg _),fun _=>rfl⟩
  | cl j=>exact ⟨_,glob_K T X (congrArg Prod.fst ho) (nC_dbg _),fun _=>rfl⟩
  | pr j=>exact ⟨_,glob_B T X (congrArg Prod.fst ho) (of_decide_eq_true hb) (nC_nam _) (nC_dbg _),fun _=>rfl⟩
  | _=>exact nos (congrArg Prod.snd ho)
 ·exact optB_e ha fun ci ec ha=>att_of (List.all_eq_true.mp (cls ec).2.2.2 nm (memN_mem ha))
 ·have t:=(cls ec).1
  unfold tMak at t
  simp only [Bool.and_eq_true,beq_iff_eq] at t
  exact t
 ·obtain ⟨fi,e⟩:=Option.isSome_iff_exists.mp q
  exact List.all_eq_true.mp hkf i (List.mem_range.mpr (List.getElem?_eq_some_iff.mp e).1)
 ·obtain ⟨ci,e⟩:=Option.isSome_iff_exists.mp q
  exact (cls e).2.1
noncomputable def fnTest (fi:FnI):Bool:=distN (fi.sc.map (·.1))&&(fi.sc.all (fun x=>decide (x.2≠.free))&&(fi.ps.all (fun p=>decide (lookN fi.sc p=some .local)||decide (lookN fi.sc p=some .cell))&&(decide fi.ps.Nodup&&decide (fi.dfl.length≤fi.ps.length))))
theorem fnTests:fnT.all fnTest=true:=by decide +kernel
theorem fnOK_all (X:K.In h) (k:KOK K) {i:Nat} {fi:FnI} (e:(gdOf w h K φb base con D).C.fn i=some fi):FnOK (gdOf w h K φb base con D) i fi:=by
 have t:=List.all_eq_true.mp fnTests fi (List.mem_of_getElem? e)
 unfold fnTest at t
 simp only [Bool.and_eq_true,Bool.or_eq_true,decide_eq_true_eq,List.all_eq_true] at t
 obtain ⟨t1,t2,t3,t4,t5⟩:=t
 exact fnOK_of nC_inj X (kok_fn1 k e) t1 (fun j q=>t2 _ (lookN_mem q) rfl) t3 t4 t5
end
end
section
noncomputable def base1:List AO:=[
 .ns [(169,.rloc 2)],
 .ns [(1,.dat (.str [65,110,121])),(2,.dat (.lst [])),(168,.dat .none),(165,.dat (.bool true)),(166,.dat (.bool false)),(167,.dat (.lst []))],
 .dict [([65,110,121],.rinst 3 1),([84,121,112,101],.rinst 3 3),([70,117,110,99,116,105,111,110],.rinst 3 5),([78,117,109,98,101,114],.rinst 3 7),([65,98,115,116,114,97,99,116,67,104,97,114],.rinst 3 9),([65,98,115,116,114,97,99,116,83,116,114,105,110,103],.rinst 3 11),([69,120,99,101,112,116,105,111,110],.rinst 3 13),([82,101,97,108],.rinst 3 15),([73,110,116,101,103,101,114],.rinst 3 17),([83,105,103,110,101,100],.rinst 3 19),([85,110,115,105,103,110,101,100],.rinst 3 21),([73,110,116,56],.rinst 3 23),([73,110,116,49,54],.rinst 3 25),([73,110,116,51,50],.rinst 3 27),([73,110,116,54,52],.rinst 3 29),([66,105,103,73,110,116],.rinst 3 31),([85,73,110,116,56],.rinst 3 33),([85,73,110,116,49,54],.rinst 3 35),([85,73,110,116,51,50],.rinst 3 37),([85,73,110,116,54,52],.rinst 3 39),([66,111,111,108],.rinst 3 41),([67,104,97,114],.rinst 3 43),([83,116,114,105,110,103],.rinst 3 45),([83,121,109,98,111,108],.rinst 3 47),([78,111,116,104,105,110,103],.rinst 3 49),([69,120,112,114],.rinst 3 51),([68,105,118,105,100,101,69,114,114,111,114],.rinst 3 53),([73,110,101,120,97,99,116,69,114,114,111,114],.rinst 3 55),([84,121,112,101,69,114,114,111,114],.rinst 3 57),([83,116,97,99,107,79,118,101,114,102,108,111,119,69,114,114,111,114],.rinst 3 59),([65,114,103,117,109,101,110,116,69,114,114,111,114],.rinst 3 61),([79,118,101,114,102,108,111,119,69,114,114,111,114],.rinst 3 63),([68,105,109,101,110,115,105,111,110,77,105,115,109,97,116,99,104],.rinst 3 65),([69,114,114,111,114,69,120,99,101,112,116,105,111,110],.rinst 3 67),([77,101,116,104,111,100,69,114,114,111,114],.rinst 3 69),([65,109,98,105,103,117,111,117,115,69,114,114,111,114],.rinst 3 71),([85,110,100,101,102,86,97,114,69,114,114,111,114],.rinst 3 73),([66,111,117,110,100,115,69,114,114,111,114],.rinst 3 75),([65,98,115,116,114,97,99,116,65,114,114,97,121],.rinst 3 77),([65,114,114,97,121],.rinst 3 79),([83,117,98,65,114,114,97,121],.rinst 3 81),([65,98,115,116,114,97,99,116,82,97,110,103,101],.rinst 3 83),([85,110,105,116,82,97,110,103,101],.rinst 3 85),([83,116,101,112,82,97,110,103,101],.rinst 3 87),([82,101,102],.rinst 3 89),([82,97,116,105,111,110,97,108],.rinst 3 91)],
 .ns [(1,.dat (.str [84,121,112,101])),(2,.dat (.lst [])),(168,.dat (.tup [.str [110,97,109,101],.str [65,110,121],.tup []])),(165,.dat (.bool true)),(166,.dat (.bool false)),(167,.dat (.lst []))],
 .dict [],
 .ns [(1,.dat (.str [70,117,110,99,116,105,111,110])),(2,.dat (.lst [])),(168,.dat (.tup [.str [110,97,109,101],.str [65,110,121],.tup []])),(165,.dat (.bool true)),(166,.dat (.bool false)),(167,.dat (.lst []))],
 .dict [],
 .ns [(1,.dat (.str [78,117,109,98,101,114])),(2,.dat (.lst [])),(168,.dat (.tup [.str [110,97,109,101],.str [65,110,121],.tup []])),(165,.dat (.bool true)),(166,.dat (.bool false)),(167,.dat (.lst []))],
 .dict [],
 .ns [(1,.dat (.str [65,98,115,116,114,97,99,116,67,104,97,114])),(2,.dat (.lst [])),(168,.dat (.tup [.str [110,97,109,101],.str [65,110,121],.tup []])),(165,.dat (.bool true)),(166,.dat (.bool false)),(167,.dat (.lst []))],
 .dict [],
 .ns [(1,.dat (.str [65,98,115,116,114,97,99,116,83,116,114,105,110,103])),(2,.dat (.lst [])),(168,.dat (.tup [.str [110,97,109,101],.str [65,110,121],.tup []])),(165,.dat (.bool true)),(166,.dat (.bool false)),(167,.dat (.lst []))],
 .dict [],
 .ns [(1,.dat (.str [69,120,99,101,112,116,105,111,110])),(2,.dat (.lst [])),(168,.dat (.tup [.str [110,97,109,101],.str [65,110,121],.tup []])),(165,.dat (.bool true)),(166,.dat (.bool false)),(167,.dat (.lst []))],
 .dict [],
 .ns [(1,.dat (.str [82,101,97,108])),(2,.dat (.lst [])),(168,.dat (.tup [.str [110,97,109,101],.str [78,117,109,98,101,114],.tup []])),(165,.dat (.bool true)),(166,.dat (.bool false)),(167,.dat (.lst []))],
 .dict [],
 .ns [(1,.dat (.str [73,110,116,101,103,101,114])),(2,.dat (.lst [])),(168,.dat (.tup [.str [110,97,109,101],.str [82,101,97,108],.tup []])),(165,.dat (.bool true)),(166,.dat (.bool false)),(167,.dat (.lst []))],
 .dict [],
 .ns [(1,.dat (.str [83,105,103,110,101,100])),(2,.dat (.lst [])),(168,.dat (.tup [.str [110,97,109,101],.str [73,110,116,101,103,101,114],.tup []])),(165,.dat (.bool true)),(166,.dat (.bool false)),(167,.dat (.lst []))],
 .dict [],
 .ns [(1,.dat (.str [85,110,115,105,103,110,101,100])),(2,.dat (.lst [])),(168,.dat (.tup [.str [110,97,109,101],.str [73,110,116,101,103,101,114],.tup []])),(165,.dat (.bool true)),(166,.dat (.bool false)),(167,.dat (.lst []))],
 .dict [],
 .ns [(1,.dat (.str [73,110,116,56])),(2,.dat (.lst [])),(168,.dat (.tup [.str [110,97,109,101],.str [83,105,103,110,101,100],.tup []])),(165,.dat (.bool false)),(166,.dat (.bool false)),(167,.dat (.lst []))],
 .dict [],
 .ns [(1,.dat (.str [73,110,116,49,54])),(2,.dat (.lst [])),(168,.dat (.tup [.str [110,97,109,101],.str [83,105,103,110,101,100],.tup []])),(165,.dat (.bool false)),(166,.dat (.bool false)),(167,.dat (.lst []))],
 .dict [],
 .ns [(1,.dat (.str [73,110,116,51,50])),(2,.dat (.lst [])),(168,.dat (.tup [.str [110,97,109,101],.str [83,105,103,110,101,100],.tup []])),(165,.dat (.bool false)),(166,.dat (.bool false)),(167,.dat (.lst []))],
 .dict [],
 .ns [(1,.dat (.str [73,110,116,54,52])),(2,.dat (.lst [])),(168,.dat (.tup [.str [110,97,109,101],.str [83,105,103,110,101,100],.tup []])),(165,.dat (.bool false)),(166,.dat (.bool false)),(167,.dat (.lst []))],
 .dict [],
 .ns [(1,.dat (.str [66,105,103,73,110,116])),(2,.dat (.lst [])),(168,.dat (.tup [.str [110,97,109,101],.str [83,105,103,110,101,100],.tup []])),(165,.dat (.bool false)),(166,.dat (.bool false)),(167,.dat (.lst []))],
 .dict [],
 .ns [(1,.dat (.str [85,73,110,116,56])),(2,.dat (.lst [])),(168,.dat (.tup [.str [110,97,109,101],.str [85,110,115,105,103,110,101,100],.tup []])),(165,.dat (.bool false)),(166,.dat (.bool false)),(167,.dat (.lst []))],
 .dict [],
 .ns [(1,.dat (.str [85,73,110,116,49,54])),(2,.dat (.lst [])),(168,.dat (.tup [.str [110,97,109,101],.str [85,110,115,105,103,110,101,100],.tup []])),(165,.dat (.bool false)),(166,.dat (.bool false)),(167,.dat (.lst []))],
 .dict [],
 .ns [(1,.dat (.str [85,73,110,116,51,50])),(2,.dat (.lst [])),(168,.dat (.tup [.str [110,97,109,101],.str [85,110,115,105,103,110,101,100],.tup []])),(165,.dat (.bool false)),(166,.dat (.bool false)),(167,.dat (.lst []))],
 .dict [],
 .ns [(1,.dat (.str [85,73,110,116,54,52])),(2,.dat (.lst [])),(168,.dat (.tup [.str [110,97,109,101],.str [85,110,115,105,103,110,101,100],.tup []])),(165,.dat (.bool false)),(166,.dat (.bool false)),(167,.dat (.lst []))],
 .dict [],
 .ns [(1,.dat (.str [66,111,111,108])),(2,.dat (.lst [])),(168,.dat (.tup [.str [110,97,109,101],.str [73,110,116,101,103,101,114],.tup []])),(165,.dat (.bool false)),(166,.dat (.bool false)),(167,.dat (.lst []))],
 .dict [],
 .ns [(1,.dat (.str [67,104,97,114])),(2,.dat (.lst [])),(168,.dat (.tup [.str [110,97,109,101],.str [65,98,115,116,114,97,99,116,67,104,97,114],.tup []])),(165,.dat (.bool false)),(166,.dat (.bool false)),(167,.dat (.lst []))],
 .dict [],
 .ns [(1,.dat (.str [83,116,114,105,110,103])),(2,.dat (.lst [])),(168,.dat (.tup [.str [110,97,109,101],.str [65,98,115,116,114,97,99,116,83,116,114,105,110,103],.tup []])),(165,.dat (.bool false)),(166,.dat (.bool false)),(167,.dat (.lst []))],
 .dict [],
 .ns [(1,.dat (.str [83,121,109,98,111,108])),(2,.dat (.lst [])),(168,.dat (.tup [.str [110,97,109,101],.str [65,110,121],.tup []])),(165,.dat (.bool false)),(166,.dat (.bool false)),(167,.dat (.lst []))],
 .dict [],
 .ns [(1,.dat (.str [78,111,116,104,105,110,103])),(2,.dat (.lst [])),(168,.dat (.tup [.str [110,97,109,101],.str [65,110,121],.tup []])),(165,.dat (.bool false)),(166,.dat (.bool false)),(167,.dat (.lst []))],
 .dict [],
 .ns [(1,.dat (.str [69,120,112,114])),(2,.dat (.lst [])),(168,.dat (.tup [.str [110,97,109,101],.str [65,110,121],.tup []])),(165,.dat (.bool false)),(166,.dat (.bool true)),(167,.dat (.lst [.tup [.str [104,101,97,100],.tup [.str [110,97,109,101],.str [83,121,109,98,111,108],.tup []]],.tup [.str [97,114,103,115],.tup [.str [110,97,109,101],.str [65,110,121],.tup []]]]))],
 .dict [([104,101,97,100],.dat (.tup [.str [110,97,109,101],.str [83,121,109,98,111,108],.tup []])),([97,114,103,115],.dat (.tup [.str [110,97,109,101],.str [65,110,121],.tup []]))],
 .ns [(1,.dat (.str [68,105,118,105,100,101,69,114,114,111,114])),(2,.dat (.lst [])),(168,.dat (.tup [.str [110,97,109,101],.str [69,120,99,101,112,116,105,111,110],.tup []])),(165,.dat (.bool false)),(166,.dat (.bool false)),(167,.dat (.lst []))],
 .dict [],
 .ns [(1,.dat (.str [73,110,101,120,97,99,116,69,114,114,111,114])),(2,.dat (.lst [])),(168,.dat (.tup [.str [110,97,109,101],.str [69,120,99,101,112,116,105,111,110],.tup []])),(165,.dat (.bool false)),(166,.dat (.bool false)),(167,.dat (.lst []))],
 .dict [],
 .ns [(1,.dat (.str [84,121,112,101,69,114,114,111,114])),(2,.dat (.lst [])),(168,.dat (.tup [.str [110,97,109,101],.str [69,120,99,101,112,116,105,111,110],.tup []])),(165,.dat (.bool false)),(166,.dat (.bool false)),(167,.dat (.lst []))],
 .dict [],
 .ns [(1,.dat (.str [83,116,97,99,107,79,118,101,114,102,108,111,119,69,114,114,111,114])),(2,.dat (.lst [])),(168,.dat (.tup [.str [110,97,109,101],.str [69,120,99,101,112,116,105,111,110],.tup []])),(165,.dat (.bool false)),(166,.dat (.bool false)),(167,.dat (.lst []))],
 .dict [],
 .ns [(1,.dat (.str [65,114,103,117,109,101,110,116,69,114,114,111,114])),(2,.dat (.lst [])),(168,.dat (.tup [.str [110,97,109,101],.str [69,120,99,101,112,116,105,111,110],.tup []])),(165,.dat (.bool false)),(166,.dat (.bool false)),(167,.dat (.lst [.tup [.str [109,115,103],.tup [.str [110,97,109,101],.str [65,110,121],.tup []]]]))],
 .dict [([109,115,103],.dat (.tup [.str [110,97,109,101],.str [65,110,121],.tup []]))],
 .ns [(1,.dat (.str [79,118,101,114,102,108,111,119,69,114,114,111,114])),(2,.dat (.lst [])),(168,.dat (.tup [.str [110,97,109,101],.str [69,120,99,101,112,116,105,111,110],.tup []])),(165,.dat (.bool false)),(166,.dat (.bool false)),(167,.dat (.lst [.tup [.str [109,115,103],.tup [.str [110,97,109,101],.str [65,110,121],.tup []]]]))],
 .dict [([109,115,103],.dat (.tup [.str [110,97,109,101],.str [65,110,121],.tup []]))],
 .ns [(1,.dat (.str [68,105,109,101,110,115,105,111,110,77,105,115,109,97,116,99,104])),(2,.dat (.lst [])),(168,.dat (.tup [.str [110,97,109,101],.str [69,120,99,101,112,116,105,111,110],.tup []])),(165,.dat (.bool false)),(166,.dat (.bool false)),(167,.dat (.lst [.tup [.str [109,115,103],.tup [.str [110,97,109,101],.str [65,110,121],.tup []]]]))],
 .dict [([109,115,103],.dat (.tup [.str [110,97,109,101],.str [65,110,121],.tup []]))],
 .ns [(1,.dat (.str [69,114,114,111,114,69,120,99,101,112,116,105,111,110])),(2,.dat (.lst [])),(168,.dat (.tup [.str [110,97,109,101],.str [69,120,99,101,112,116,105,111,110],.tup []])),(165,.dat (.bool false)),(166,.dat (.bool false)),(167,.dat (.lst [.tup [.str [109,115,103],.tup [.str [110,97,109,101],.str [65,110,121],.tup []]]]))],
 .dict [([109,115,103],.dat (.tup [.str [110,97,109,101],.str [65,110,121],.tup []]))],
 .ns [(1,.dat (.str [77,101,116,104,111,100,69,114,114,111,114])),(2,.dat (.lst [])),(168,.dat (.tup [.str [110,97,109,101],.str [69,120,99,101,112,116,105,111,110],.tup []])),(165,.dat (.bool false)),(166,.dat (.bool false)),(167,.dat (.lst [.tup [.str [102],.tup [.str [110,97,109,101],.str [65,110,121],.tup []]],.tup [.str [97,114,103,115],.tup [.str [110,97,109,101],.str [65,110,121],.tup []]]]))],
 .dict [([102],.dat (.tup [.str [110,97,109,101],.str [65,110,121],.tup []])),([97,114,103,115],.dat (.tup [.str [110,97,109,101],.str [65,110,121],.tup []]))],
 .ns [(1,.dat (.str [65,109,98,105,103,117,111,117,115,69,114,114,111,114])),(2,.dat (.lst [])),(168,.dat (.tup [.str [110,97,109,101],.str [69,120,99,101,112,116,105,111,110],.tup []])),(165,.dat (.bool false)),(166,.dat (.bool false)),(167,.dat (.lst [.tup [.str [102],.tup [.str [110,97,109,101],.str [65,110,121],.tup []]],.tup [.str [97,114,103,115],.tup [.str [110,97,109,101],.str [65,110,121],.tup []]]]))],
 .dict [([102],.dat (.tup [.str [110,97,109,101],.str [65,110,121],.tup []])),([97,114,103,115],.dat (.tup [.str [110,97,109,101],.str [65,110,121],.tup []]))],
 .ns [(1,.dat (.str [85,110,100,101,102,86,97,114,69,114,114,111,114])),(2,.dat (.lst [])),(168,.dat (.tup [.str [110,97,109,101],.str [69,120,99,101,112,116,105,111,110],.tup []])),(165,.dat (.bool false)),(166,.dat (.bool false)),(167,.dat (.lst [.tup [.str [118,97,114],.tup [.str [110,97,109,101],.str [65,110,121],.tup []]]]))],
 .dict [([118,97,114],.dat (.tup [.str [110,97,109,101],.str [65,110,121],.tup []]))],
 .ns [(1,.dat (.str [66,111,117,110,100,115,69,114,114,111,114])),(2,.dat (.lst [])),(168,.dat (.tup [.str [110,97,109,101],.str [69,120,99,101,112,116,105,111,110],.tup []])),(165,.dat (.bool false)),(166,.dat (.bool false)),(167,.dat (.lst [.tup [.str [97],.tup [.str [110,97,109,101],.str [65,110,121],.tup []]],.tup [.str [105],.tup [.str [110,97,109,101],.str [65,110,121],.tup []]]]))],
 .dict [([97],.dat (.tup [.str [110,97,109,101],.str [65,110,121],.tup []])),([105],.dat (.tup [.str [110,97,109,101],.str [65,110,121],.tup []]))],
 .ns [(1,.dat (.str [65,98,115,116,114,97,99,116,65,114,114,97,121])),(2,.dat (.lst [.tup [.str [84,46,48],.tup [.str [98,111,116,116,111,109]],.tup [.str [110,97,109,101],.str [65,110,121],.tup []]],.tup [.str [78,46,48],.tup [.str [98,111,116,116,111,109]],.tup [.str [110,97,109,101],.str [65,110,121],.tup []]]])),(168,.dat (.tup [.str [110,97,109,101],.str [65,110,121],.tup []])),(165,.dat (.bool true)),(166,.dat (.bool false)),(167,.dat (.lst []))],
 .dict [],
 .ns [(1,.dat (.str [65,114,114,97,121])),(2,.dat (.lst [.tup [.str [84,46,48],.tup [.str [98,111,116,116,111,109]],.tup [.str [110,97,109,101],.str [65,110,121],.tup []]],.tup [.str [78,46,48],.tup [.str [98,111,116,116,111,109]],.tup [.str [110,97,109,101],.str [65,110,121],.tup []]]])),(168,.dat (.tup [.str [110,97,109,101],.str [65,98,115,116,114,97,99,116,65,114,114,97,121],.tup [.tup [.str [118,97,114],.str [84,46,48]],.tup [.str [118,97,114],.str [78,46,48]]]])),(165,.dat (.bool false)),(166,.dat (.bool true)),(167,.dat (.lst []))],
 .dict [],
 .ns [(1,.dat (.str [83,117,98,65,114,114,97,121])),(2,.dat (.lst [.tup [.str [84,46,48],.tup [.str [98,111,116,116,111,109]],.tup [.str [110,97,109,101],.str [65,110,121],.tup []]],.tup [.str [78,46,48],.tup [.str [98,111,116,116,111,109]],.tup [.str [110,97,109,101],.str [65,110,121],.tup []]]])),(168,.dat (.tup [.str [110,97,109,101],.str [65,98,115,116,114,97,99,116,65,114,114,97,121],.tup [.tup [.str [118,97,114],.str [84,46,48]],.tup [.str [118,97,114],.str [78,46,48]]]])),(165,.dat (.bool false)),(166,.dat (.bool true)),(167,.dat (.lst []))],
 .dict [],
 .ns [(1,.dat (.str [65,98,115,116,114,97,99,116,82,97,110,103,101])),(2,.dat (.lst [.tup [.str [84,46,48],.tup [.str [98,111,116,116,111,109]],.tup [.str [110,97,109,101],.str [65,110,121],.tup []]]])),(168,.dat (.tup [.str [110,97,109,101],.str [65,98,115,116,114,97,99,116,65,114,114,97,121],.tup [.tup [.str [118,97,114],.str [84,46,48]],.tup [.str [110],.int 1]]])),(165,.dat (.bool true)),(166,.dat (.bool false)),(167,.dat (.lst []))],
 .dict [],
 .ns [(1,.dat (.str [85,110,105,116,82,97,110,103,101])),(2,.dat (.lst [.tup [.str [84,46,48],.tup [.str [98,111,116,116,111,109]],.tup [.str [110,97,109,101],.str [65,110,121],.tup []]]])),(168,.dat (.tup [.str [110,97,109,101],.str [65,98,115,116,114,97,99,116,82,97,110,103,101],.tup [.tup [.str [118,97,114],.str [84,46,48]]]])),(165,.dat (.bool false)),(166,.dat (.bool false)),(167,.dat (.lst [.tup [.str [115,116,97,114,116],.tup [.str [118,97,114],.str [84,46,48]]],.tup [.str [115,116,111,112],.tup [.str [118,97,114],.str [84,46,48]]]]))],
 .dict [([115,116,97,114,116],.dat (.tup [.str [118,97,114],.str [84,46,48]])),([115,116,111,112],.dat (.tup [.str [118,97,114],.str [84,46,48]]))],
 .ns [(1,.dat (.str [83,116,101,112,82,97,110,103,101])),(2,.dat (.lst [.tup [.str [84,46,48],.tup [.str [98,111,116,116,111,109]],.tup [.str [110,97,109,101],.str [65,110,121],.tup []]]])),(168,.dat (.tup [.str [110,97,109,101],.str [65,98,115,116,114,97,99,116,82,97,110,103,101],.tup [.tup [.str [118,97,114],.str [84,46,48]]]])),(165,.dat (.bool false)),(166,.dat (.bool false)),(167,.dat (.lst [.tup [.str [115,116,97,114,116],.tup [.str [118,97,114],.str [84,46,48]]],.tup [.str [115,116,101,112],.tup [.str [118,97,114],.str [84,46,48]]],.tup [.str [115,116,111,112],.tup [.str [118,97,114],.str [84,46,48]]]]))],
 .dict [([115,116,97,114,116],.dat (.tup [.str [118,97,114],.str [84,46,48]])),([115,116,101,112],.dat (.tup [.str [118,97,114],.str [84,46,48]])),([115,116,111,112],.dat (.tup [.str [118,97,114],.str [84,46,48]]))],
 .ns [(1,.dat (.str [82,101,102])),(2,.dat (.lst [.tup [.str [84,46,48],.tup [.str [98,111,116,116,111,109]],.tup [.str [110,97,109,101],.str [65,110,121],.tup []]]])),(168,.dat (.tup [.str [110,97,109,101],.str [65,110,121],.tup []])),(165,.dat (.bool false)),(166,.dat (.bool true)),(167,.dat (.lst [.tup [.str [120],.tup [.str [118,97,114],.str [84,46,48]]]]))],
 .dict [([120],.dat (.tup [.str [118,97,114],.str [84,46,48]]))],
 .ns [(1,.dat (.str [82,97,116,105,111,110,97,108])),(2,.dat (.lst [.tup [.str [84,46,48],.tup [.str [98,111,116,116,111,109]],.tup [.str [110,97,109,101],.str [73,110,116,101,103,101,114],.tup []]]])),(168,.dat (.tup [.str [110,97,109,101],.str [82,101,97,108],.tup []])),(165,.dat (.bool false)),(166,.dat (.bool false)),(167,.dat (.lst [.tup [.str [110,117,109],.tup [.str [118,97,114],.str [84,46,48]]],.tup [.str [100,101,110],.tup [.str [118,97,114],.str [84,46,48]]]]))],
 .dict [([110,117,109],.dat (.tup [.str [118,97,114],.str [84,46,48]])),([100,101,110],.dat (.tup [.str [118,97,114],.str [84,46,48]]))]]
noncomputable def noC:Con:=fun _=>none
noncomputable def unV:AV→AV:=AV.rec (motive_2:=fun _=>List AV) .dat .loc .inst .loc .inst .fn .cl .pr (fun _ q=>.mix q) .obj [] (fun _ _ p q=>p::q)
noncomputable def unO (o:AO):AO:=AO.casesOn o (fun l=>.list (l.map unV)) (fun l=>.ns (l.map fun x=>(x.1,unV x.2))) (fun l=>.dict (l.map fun x=>(x.1,unV x.2))) .lost
noncomputable def H1:List AO:=base1.map unO
theorem kinds_run:(@ops opq0.toOpqE itN (cfg [] noC) 1000).call 60 (.fn k_start_kinds) [] []=some (.inst 4 0,H1):=by kernel_rfl
theorem base_put (D:Nat→DV):base1.map (putO D)=base1:=by kernel_rfl
noncomputable def runH [OpqE] (C:Cfg) (n f d:Nat) (vs:List AV) (H:Hp):Option (AV×Hp):=ob (C.fn f) fun fi=>ob (bindP fi.ps fi.dfl vs) fun bs=>runB (ops itN C n) fi bs d H
noncomputable def runF [OpqE] (C:Cfg) (n f d:Nat) (vs:List AV):Option AV:=ob2 (runH C n f d vs []) frozen
noncomputable def resF (n:Nat) (o:Option (AV×Hp)):Option (AV×Hp):=ob2 o fun v H=>some (v,H.take n)
noncomputable def resL (n:Nat) (o:Option (AV×Hp)):Option (AV×Hp):=ob2 o fun v H=>some (outV v,(H.take n).drop 1)
structure Wd (h:Heap) (K:Frag):Prop where
 X:K.In h
 k:KOK K
 T:∃ p lo mg mb,TopRead p lo mg mb h
noncomputable abbrev gC (w:World) (h:Heap) (K:Frag) (φb:Nat→Option Addr) (con:Con) (D:Nat→DV):Gd:=gdOf w h K φb base1 con D
section
variable {w:World} {h:Heap} {K:Frag} {φb:Nat→Option Addr} {I:Opq} {con:Con} {n f d:Nat} {vs:List AV} {v:AV} {H H0 H':Hp} {ix:List Nat}
structure CG (w:World) (h:Heap) (K:Frag) (φb:Nat→Option Addr) (k d:Nat) (vs:List AV) (H:Hp) (v:AV) (H':Hp):Prop where
 c:CallG (gC w h K φb noC .opq) k d vs H v H'
noncomputable abbrev CF (w:World) (h:Heap) (K:Frag) (φb:Nat→Option Addr) (k d:Nat) (vs:List AV) (H:Hp) (v:AV):Prop:=CG w h K φb k d vs H v H
theorem closed_put (D:Nat→DV) (v:AV):closedV (putV D v)=closedV v:=AV.rec (motive_1:=fun v=>closedV (putV D v)=closedV v)
 (motive_2:=fun l=>AV.rec_1 (motive_1:=fun _=>Bool) (fun _=>true) (fun _=>false) (fun _ _=>false) (fun _=>true) (fun _ _=>true) (fun _=>true) (fun _=>true) (fun _=>true) (fun _ q=>q) true true (fun _ _ a b=>cond a b false) (putVL D l)=AV.rec_1 (motive_1:=fun _=>Bool) (fun _=>true) (fun _=>false) (fun _ _=>false) (fun _=>true) (fun _ _=>true) (fun _=>true) (fun _=>true) (fun _=>true) (fun _ q=>q) true true (fun _ _ a b=>cond a b false) l)
 (fun _=>rfl) (fun _=>rfl) (fun _ _=>rfl) (fun _=>rfl) (fun _ _=>rfl) (fun _=>rfl) (fun _=>rfl) (fun _=>rfl) (fun _ h=>h) rfl rfl (fun _ _ p q=>cg2 (f:=fun a b=>cond a b false) p q) v
theorem closed_putL (D:Nat→DV) (l:List AV):closedL (putVL D l)=closedL l:=by
 induction l with
 | nil=>rfl
 | cons a l ih=>exact cg2 (f:=and) (closed_put D a) ih
structure ConOK (w:World) (h:Heap) (K:Frag) (φb:Nat→Option Addr) (I:Opq) (con:Con):Prop where
 lt:∀ {k},(con k).isSome=true→k < 74
 ok:∀ {k d gg vs H v H'},con k=some (d,gg)→gg vs H=some (v,H')→CG w h K φb k d (putVL I.D vs) (H.map (putO I.D)) (putV I.D v) (H'.map (putO I.D))
theorem ConOK.none:ConOK w h K φb I noC:=⟨nft,nos⟩
theorem tok_put:CG w h K φb f d (putVL I.D vs) (H.map (putO I.D)) (putV I.D v) (H'.map (putO I.D))↔CallG (gC w h K φb con I.D) f d vs H v H':=⟨fun h=>(call_put (base_put _)).mp h.c,fun h=>⟨(call_put (base_put _)).mpr h⟩⟩
theorem ConOK.conS (c:ConOK w h K φb I con):ConS (gC w h K φb con I.D):=fun e1 e2=>tok_put.mp (c.ok e1 e2)
theorem ConOK.fns (c:ConOK w h K φb I con) {k:Nat} (q:((gC w h K φb con I.D).C.con k).isSome=true):((gC w h K φb con I.D).C.fn k).isSome=true:=by
 show (fnT[k]?).isSome=true
 rw [List.getElem?_eq_getElem (show k < fnT.length from c.lt q)];rfl
theorem Wd.ops (E:Wd h K) (c:ConOK w h K φb I con) (n:Nat):OpsOK (gC w h K φb con I.D) (@Mine.ops I.toOpqE itN (cfg base1 con) n):=by
 obtain ⟨p,lo,mg,mb,T⟩:=E.T
 exact @ops_ok I.toOpqE (gC w h K φb con I.D) (gdOK_of E.X E.k T) (@TokOK.mk I.toOpqE _ I.nn I.dep I.eqk) (fnOK_all E.X E.k) c.conS c.fns n
theorem layer_run (E:Wd h K) (c:ConOK w h K φb I con) (e:@runH I.toOpqE (cfg base1 con) n f d vs H=some (v,H')):CallG (gC w h K φb con I.D) f d vs H v H':=ob_e e fun fi ef e=>ob_e e fun bs eb e=>by
 obtain ⟨p,lo,mg,mb,T⟩:=E.T
 exact run_callG (gdOK_of E.X E.k T) (E.ops c n).ex (fnOK_all E.X E.k ef) eb e
theorem layer_pure (E:Wd h K) (c:ConOK w h K φb I con) (e:@runF I.toOpqE (cfg base1 con) n f d vs=some v) (h1:closedL vs=true) (h2:closedV v=true) (H:Hp):CF w h K φb f d (putVL I.D vs) H (putV I.D v):=ob2_e e fun u H1 e1 e2 =>
 ⟨iso_callG (v:=putV I.D v) (H1:=[]) (tok_put (H:=[]) (H':=[]) |>.mpr (iso_callG (layer_run E c e1) h1 e2)).c ((closed_putL _ _).trans h1) (by unfold frozen;rw [closed_put,h2];rfl)⟩
theorem take_get {H1:Hp} {i n:Nat} (hi:i < n):(H1.take n)[i]?=H1[i]?:=List.getElem?_take_of_lt hi
theorem out_put (D:Nat→DV) (v:AV):putV D (outV v)=outV (putV D v):=by cases v <;> rfl
theorem layer_part (E:Wd h K) (c:ConOK w h K φb I con) {H1:Hp} {v':AV} (e:@runH I.toOpqE (cfg base1 con) n f d vs H0=some (v,H1)) (hp:H0.map (putO I.D)=H0) (hs:H0.all (scpO H0.length)=true) (hvs:(putVL I.D vs).all (scpV H0.length)=true)
  (hl:ix.length=H0.length) (nd:ix.Nodup) (hH:∀ {i o},H0[i]?=some o→H[ix.getD i 0]?=some (renUO ix o)) (hL:H'.length=H.length)
  (hn:∀ {m o},H'[m]?=some o→o=.lost∨(H[m]?=some o∧∀ {i},i < H0.length→ix.getD i 0=m→(H1.map (putO I.D))[i]?=H0[i]?)) (hv:∀ {k k':Kn} {x},k'.f=k.f→(∀ i,i < H0.length→k.φ i=k'.φ (ix.getD i 0))→VR (gC w h K φb noC .opq) k (putV I.D v) x→VR (gC w h K φb noC .opq) k' v' x) :
  CG w h K φb f d ((putVL I.D vs).map (renU ix)) H v' H':=by
 have h0:CG w h K φb f d (putVL I.D vs) (H0.map (putO I.D)) (putV I.D v) (H1.map (putO I.D)):=tok_put.mpr (layer_run E c e)
 rw [hp] at h0
 exact ⟨part_call h0.c hl nd hH hs hvs hL hn hv⟩
theorem res_get {H1:Hp} {i:Nat} (e:H1.take H0.length=H0) (hp:H0.map (putO I.D)=H0) (hi:i < H0.length):(H1.map (putO I.D))[i]?=H0[i]?:=by
 rw [List.getElem?_map,← take_get hi,e,← List.getElem?_map,hp]
theorem layer_sub (E:Wd h K) (c:ConOK w h K φb I con) (e:resF H0.length (@runH I.toOpqE (cfg base1 con) n f d vs H0)=some (v,H0)) (hp:H0.map (putO I.D)=H0) (hv:closedV v=true) (hs:H0.all (scpO H0.length)=true) (hvs:(putVL I.D vs).all (scpV H0.length)=true)
  (hl:ix.length=H0.length) (nd:ix.Nodup) (hH:∀ {i o},H0[i]?=some o→H[ix.getD i 0]?=some (renUO ix o)):CF w h K φb f d ((putVL I.D vs).map (renU ix)) H (putV I.D v):=ob2_e e fun u H1 e1 e2=>pr_e e2 fun z1 z2=>by
 subst z1
 exact layer_part E c e1 hp hs hvs hl nd hH rfl (fun e=>.inr ⟨e,fun hi _=>res_get z2 hp hi⟩) fun e _ r=>closed_up e ((closed_put _ _).trans hv) r
theorem layer_give (E:Wd h K) (c:ConOK w h K φb I con) (e:resF H0.length (@runH I.toOpqE (cfg base1 con) n f d vs H0)=some (v,H0)) (hp:H0.map (putO I.D)=H0) (hv:scpV H0.length (putV I.D v)=true) (hs:H0.all (scpO H0.length)=true) (hvs:(putVL I.D vs).all (scpV H0.length)=true)
  (hl:ix.length=H0.length) (nd:ix.Nodup) (hH:∀ {i o},H0[i]?=some o→H[ix.getD i 0]?=some (renUO ix o)):CF w h K φb f d ((putVL I.D vs).map (renU ix)) H (renU ix (putV I.D v)):=ob2_e e fun u H1 e1 e2=>pr_e e2 fun z1 z2=>by
 subst z1
 exact layer_part E c e1 hp hs hvs hl nd hH rfl (fun e=>.inr ⟨e,fun hi _=>res_get z2 hp hi⟩) fun {k k' x} e e1 r=>by
  obtain ⟨f,φ⟩:=k
  obtain ⟨f',φ'⟩:=k'
  have e:f'=f:=e
  subst e
  exact (ren_VR e1 hv).symm ▸ r
theorem layer_lose (E:Wd h K) (c:ConOK w h K φb I con) (e:resL H0.length (@runH I.toOpqE (cfg base1 con) n f d vs H0)=some (v,H0.drop 1)) (hp:H0.map (putO I.D)=H0) (hv:closedV v=true) (hs:H0.all (scpO H0.length)=true) (hvs:(putVL I.D vs).all (scpV H0.length)=true)
  (hl:ix.length=H0.length) (nd:ix.Nodup) (hH:∀ {i o},H0[i]?=some o→H[ix.getD i 0]?=some (renUO ix o)):CG w h K φb f d ((putVL I.D vs).map (renU ix)) H (putV I.D v) (H.set (ix.getD 0 0) .lost):=ob2_e e fun u H1 e1 e2=>pr_e e2 fun z1 z2=>by
 subst z1
 rw [out_put]
 refine layer_part E c e1 hp hs hvs hl nd hH List.length_set (fun {m o} e=>?_) fun e _ r=>out_rel (by rw [← out_put,closed_put];exact hv) e r
 by_cases q:ix.getD 0 0=m
 ·rw [q] at e
  have hlt:m < H.length:=by
   have:=(List.getElem?_eq_some_iff.mp e).1
   rwa [List.length_set] at this
  rw [List.getElem?_set_self hlt] at e;exact .inl (Option.some.inj e).symm
 ·rw [List.getElem?_set_ne q] at e
  refine .inr ⟨e,fun {i} hi hm=>?_⟩
  cases i with
  | zero=>exact absurd hm q
  | succ i =>
   have h1:((H1.take H0.length).drop 1)[i]?=(H0.drop 1)[i]?:=by rw [z2]
   rw [List.getElem?_drop,List.getElem?_drop,Nat.add_comm 1 i,take_get hi] at h1
   rw [List.getElem?_map,h1,← List.getElem?_map,hp]
theorem closed_call (E:Wd h K) (e:@runF opq0.toOpqE (cfg base1 noC) n f d vs=some v) (h1:closedL vs=true) (h2:closedV v=true) (H:Hp):CF w h K φb f d vs H v:=by
 have:=layer_pure (φb:=φb) (w:=w) (I:=opq0) E .none e h1 h2 H
 rwa [putL_map,show (putV opq0.D)=id from funext put_id,List.map_id] at this
theorem CG.mono {k d':Nat} (h0:CG w h K φb k d vs H v H') (hd:d≤d'):CG w h K φb k d' vs H v H':=⟨CallG.mono h0.c hd⟩
end
end
section
noncomputable def nmL:List (List Nat):=[[73,110,116,54,52],[83,105,103,110,101,100],[85,73,110,116,56],[85,110,115,105,103,110,101,100],[73,110,116,101,103,101,114],[82,101,97,108],[78,117,109,98,101,114],[65,110,121],[67,104,97,114],[83,116,114,105,110,103]]
noncomputable def nmC (i:Nat):List Nat:=match nmL[i]? with
 | some s=>s
 | none=>[]
noncomputable def lotL:List (List Nat):=[[0],[1],[2],[3],[4],[5],[6],[7],[8],[9],[0,2],[0,3],[0,9],[1,2],[1,3],[1,9],[4,9],[5,9],[6,9],[8,0],[8,1],[8,2],[8,3],[8,4],[8,5],[8,6],[8,9],[9,2],[9,3]]
noncomputable def upN:Nat→List Nat
 | 0=>[0,1,4,5,6,7]
 | 1=>[1,4,5,6,7]
 | 2=>[2,3,4,5,6,7]
 | 3=>[3,4,5,6,7]
 | 4=>[4,5,6,7]
 | 5=>[5,6,7]
 | 6=>[6,7]
 | 7=>[7]
 | 8=>[8,7]
 | 9=>[9,7]
 | _=>[]
noncomputable def leN (a b:Nat):Bool:=memN (upN a) b
noncomputable def nk (i:Nat):DV:=.tup [.str [110,97,109,101],.str (nmC i),.tup []]
noncomputable def kd:List Nat→DV
 | [a]=>nk a
 | l=>.tup [.str [117,110,105,111,110],.tup (l.map nk)]
noncomputable def subW:DV:=.str [115,117,98]
noncomputable def goalD (a b:DV):DV:=.tup [subW,a,b]
noncomputable def Hs (fu:Int):Hp:=[.ns [(4,.rinst 4 0),(81,.dat (.int fu))],.ns [(58,.loc 2),(59,.dat (.int 0))],.dict []]
noncomputable def waysL (x:Nat) (c:List Nat):DV:=match c with
 | [y]=>match leN x y with
  | true=>.lst [.lst []]
  | false=>.lst []
 | c=>.lst (c.map fun y=>.lst [goalD (nk x) (nk y)])
noncomputable def pairsXC:List (Nat×List Nat):=(List.range 10).flatMap fun x=>lotL.map fun c=>(x,c)
theorem step_run (fu:Int):pairsXC.map (fun p=>resF 3 (@runH opq0.toOpqE (cfg base1 noC) 200 k_Search_step 20 [.inst 1 0,.dat (goalD (nk p.1) (kd p.2)),.inst 0 1] (Hs fu)))=pairsXC.map fun p=>some (.dat (waysL p.1 p.2),Hs fu):=by kernel_rfl
section
variable {w:World} {h:Heap} {K:Frag} {φb:Nat→Option Addr}
theorem part3 {H:Hp} {n m r:Nat} {a b c:AO} (h1:H[n]?=some (renUO [n,m,r] a)) (h2:H[m]?=some (renUO [n,m,r] b)) (h3:H[r]?=some (renUO [n,m,r] c)) {i:Nat} {o:AO} (e:[a,b,c][i]?=some o):H[[n,m,r].getD i 0]?=some (renUO [n,m,r] o):=by
 cases i with
 | zero=>rw [← Option.some.inj e];exact h1
 | succ i=>cases i with
  | zero=>rw [← Option.some.inj e];exact h2
  | succ i=>cases i with
   | zero=>rw [← Option.some.inj e];exact h3
   | succ i=>exact nos e
theorem ne3 {α:Type} {l:List α} {n m:Nat} {a b:α} (f:α→Nat) (h1:l[n]?=some a) (h2:l[m]?=some b) (h:Nat.beq (f a) (f b)=false):n≠m:=fun q=>by
 rw [q,h2] at h1
 rw [Option.some.inj h1,Nat.beq_refl] at h
 exact nft h.symm
theorem nd3 {n m r:Nat} (h1:n≠m) (h2:n≠r) (h3:m≠r):[n,m,r].Nodup:=by simp [h1,h2,h3]
noncomputable def tagO (o:AO):Nat:=AO.casesOn o (fun _=>0) (fun fs=>lrec 1 (fun p _ _=>p.1+2) fs) (fun _=>1000000) 1000001
theorem step_lot (E:Wd h K) {i:Nat} {l:List Nat} (hi:i < 10) (hl:l∈lotL) {H:Hp} {n m r:Nat} {fu:Int} (h1:H[n]?=some (.ns [(4,.rinst 4 0),(81,.dat (.int fu))])) (h2:H[m]?=some (.ns [(58,.loc r),(59,.dat (.int 0))])) (h3:H[r]?=some (.dict [])) :
  CF w h K φb k_Search_step 20 [.inst 1 n,.dat (goalD (nk i) (kd l)),.inst 0 m] H (.dat (waysL i l)):=by
 have hm:(i,l)∈pairsXC:=List.mem_flatMap.mpr ⟨i,List.mem_range.mpr hi,List.mem_map.mpr ⟨l,hl,rfl⟩⟩
 have e:=List.map_inj_left.mp (step_run fu) _ hm
 have r:CF w h K φb k_Search_step 20 [.inst 1 n,.dat (subD .opq (goalD (nk i) (kd l))),.inst 0 m] H (.dat (subD .opq (waysL i l))):=layer_sub (I:=opq0) (con:=noC) (vs:=[.inst 1 0,.dat (goalD (nk i) (kd l)),.inst 0 1]) (H0:=Hs fu) (ix:=[n,m,r]) E .none e rfl rfl rfl rfl rfl (nd3 (ne3 tagO h1 h2 rfl) (ne3 tagO h1 h3 rfl) (ne3 tagO h2 h3 rfl)) (part3 h1 h2 h3)
 rwa [sub_id,sub_id] at r
theorem empty_run:lotL.map (fun l=>@runF opq0.toOpqE (cfg base1 noC) 60 k_is_empty 10 [.dat (kd l)])=lotL.map fun _=>some (.dat (.bool false)):=by kernel_rfl
theorem cases_run:lotL.map (fun l=>@runF opq0.toOpqE (cfg base1 noC) 100 k_left_cases 10 [.dat (kd l)])=lotL.map fun l=>some (.dat (.lst (l.map nk))):=by kernel_rfl
theorem free_run:lotL.map (fun l=>@runF opq0.toOpqE (cfg base1 noC) 100 k_free_vars 10 [.dat (kd l)])=lotL.map fun _=>some (.dat (.lst [])):=by kernel_rfl
theorem within_run:lotL.map (fun l=>@runF opq0.toOpqE (cfg base1 noC) 100 k_names_within 10 [.dat (kd l)])=lotL.map fun _=>some (.dat (.lst [])):=by kernel_rfl
end
end
section
section
variable {α:Type}
noncomputable def v3 (l:List α):Option (α×α×α):=List.rec none (fun a l _=>ob (v2 l) fun b=>some (a,b)) l
noncomputable def v4 (l:List α):Option (α×α×α×α):=List.rec none (fun a l _=>ob (v3 l) fun b=>some (a,b)) l
theorem v3_eq {l:List α} {p:α×α×α} (h:v3 l=some p):l=[p.1,p.2.1,p.2.2]:=by
 cases l with
 | nil=>exact nos h
 | cons x r=>exact ob_e (o:=v2 r) h fun b e h=>by rw [v2_eq e,← Option.some.inj h]
theorem v4_eq {l:List α} {p:α×α×α×α} (h:v4 l=some p):l=[p.1,p.2.1,p.2.2.1,p.2.2.2]:=by
 cases l with
 | nil=>exact nos h
 | cons x r=>exact ob_e (o:=v3 r) h fun b e h=>by rw [v3_eq e,← Option.some.inj h]
theorem len0 {l:List α} (h:l.length=0):l=[]:=List.eq_nil_of_length_eq_zero h
theorem lenS {l:List α} {n:Nat} (h:l.length=n+1):∃ x r,l=x::r∧r.length=n:=by
 cases l with
 | nil=>exact absurd h (Nat.succ_ne_zero n).symm
 | cons x r=>exact ⟨x,r,rfl,Nat.succ.inj h⟩
theorem len1 {l:List α} (h:l.length=1):∃ x,l=[x]:=let ⟨x,r,e,h⟩:=lenS h;⟨x,by rw [e,len0 h]⟩
theorem len2 {l:List α} (h:l.length=2):∃ x y,l=[x,y]:=let ⟨x,r,e,h⟩:=lenS h;let ⟨y,e'⟩:=len1 h;⟨x,y,by rw [e,e']⟩
theorem len3 {l:List α} (h:l.length=3):∃ x y z,l=[x,y,z]:=let ⟨x,r,e,h⟩:=lenS h;let ⟨y,z,e'⟩:=len2 h;⟨x,y,z,by rw [e,e']⟩
theorem one_mem {p:α→Prop} {a:α} (h:p a):∀ x∈[a],p x:=fun x q=>by rw [List.mem_singleton.mp q];exact h
theorem cons_mem {p:α→Prop} {a:α} {l:List α} (h:p a) (k:∀ x∈l,p x):∀ x∈a::l,p x:=fun x q=>(List.mem_cons.mp q).elim (fun e=>e ▸ h) (k x)
end
theorem asOpq_eq {d:DV} {b:Nat} (e:asOpq d=some b):d=.opq b:=by
 cases d with
 | opq d'=>exact congrArg DV.opq (Option.some.inj e)
 | _=>exact nos e
noncomputable def instK (k:Nat) (v:AV):Option Nat:=ob2 (instV v) fun c n=>gb (Nat.beq c k) (some n)
theorem instK_eq {k n:Nat} {v:AV} (h:instK k v=some n):v=.inst k n:=ob2_e h fun c m e h=>gb_e h fun q h=>by rw [instV_eq e,← Option.some.inj h,← Nat.eq_of_beq_eq_true q]
noncomputable def isRi (v:AV):Bool:=optB (rinstV v) fun p=>Nat.beq p.1 4&&Nat.beq p.2 0
theorem isRi_eq {v:AV} (h:isRi v=true):v=.rinst 4 0:=optB_e h fun p e h=>and_e h fun a b=>by rw [rinstV_eq e,Nat.eq_of_beq_eq_true a,Nat.eq_of_beq_eq_true b]
noncomputable def dvE:DV→DV→Bool:=DV.rec (motive_2:=fun _=>List DV→Bool) isNoneD (fun a b=>optB (asBool b) fun c=>a==c) (fun a b=>optB (asInt b) fun c=>decide (a=c)) (fun a b=>optB (asStr b) (listBeq a)) (fun _ q b=>optB (asTup b) q) (fun _ q b=>optB (asLst b) q) (fun a b=>optB (asOpq b) (Nat.beq a))
 List.isEmpty (fun _ _ p q r=>List.rec false (fun b r _=>cond (p b) (q r) false) r)
theorem dvE_eq {a:DV}:∀ {b:DV},dvE a b=true→a=b:=DV.rec (motive_1:=fun a=>∀ b,dvE a b=true→a=b)
 (motive_2:=fun l=>∀ r,DV.rec_1 (motive_1:=fun _=>DV→Bool) isNoneD (fun a b=>optB (asBool b) fun c=>a==c) (fun a b=>optB (asInt b) fun c=>decide (a=c)) (fun a b=>optB (asStr b) (listBeq a)) (fun _ q b=>optB (asTup b) q) (fun _ q b=>optB (asLst b) q) (fun a b=>optB (asOpq b) (Nat.beq a))
  List.isEmpty (fun _ _ p q r=>List.rec false (fun b r _=>cond (p b) (q r) false) r) l r=true→l=r)
 (fun b h=>(isNoneD_eq h).symm) (fun a b h=>optB_e h fun _ e q=>by rw [asBool_eq e,eq_of_beq q]) (fun a b h=>optB_e h fun _ e q=>by rw [asInt_eq e,of_decide_eq_true q]) (fun a b h=>optB_e h fun _ e q=>by rw [asStr_eq e,lb_iff.mp q])
 (fun l ih b h=>optB_e h fun _ e q=>by rw [asTup_eq e,ih _ q]) (fun l ih b h=>optB_e h fun _ e q=>by rw [asLst_eq e,ih _ q]) (fun a b h=>optB_e h fun _ e q=>by rw [asOpq_eq e,Nat.eq_of_beq_eq_true q])
 (fun r h=>(List.isEmpty_iff.mp h).symm) (fun d l p q r h=>by
  cases r with
  | nil=>exact nft h
  | cons e r=>exact cond_e h fun h1 h2=>by rw [p e h1,q r h2]) a _
theorem dO_eq {o:Option AO} {l:List (List Nat×AV)} (e:dO o=some l):o=some (.dict l):=ob_e e fun q e h=>by
 rw [e];cases q with
 | dict d=>exact congrArg (fun x=>some (AO.dict x)) (Option.some.inj h)
 | _=>exact nos h
noncomputable def nilD (o:Option AO):Bool:=optB (dO o) List.isEmpty
theorem nilD_eq {o:Option AO} (h:nilD o=true):o=some (.dict []):=optB_e h fun _ e q=>by rw [dO_eq e,List.isEmpty_iff.mp q]
noncomputable def fld (k:Nat) (p:Nat×AV):Option AV:=gb (Nat.beq p.1 k) (some p.2)
theorem fld_eq {k:Nat} {p:Nat×AV} {v:AV} (h:fld k p=some v):p=(k,v):=gb_e h fun e h=>by rw [← Option.some.inj h,← Nat.eq_of_beq_eq_true e]
noncomputable def fldR (k:Nat) (p:Nat×AV):Bool:=optB (fld k p) isRi
theorem fldR_eq {k:Nat} {p:Nat×AV} (h:fldR k p=true):p=(k,.rinst 4 0):=optB_e h fun _ e q=>by rw [fld_eq e,isRi_eq q]
noncomputable def fldI (k:Nat) (p:Nat×AV):Option Int:=ob (fld k p) intV
theorem fldI_eq {k:Nat} {p:Nat×AV} {v:Int} (h:fldI k p=some v):p=(k,.dat (.int v)):=ob_e h fun _ e h=>by rw [fld_eq e,intV_eq h]
noncomputable def fldL (k:Nat) (p:Nat×AV):Option Nat:=ob (fld k p) locV
theorem fldL_eq {k:Nat} {p:Nat×AV} {v:Nat} (h:fldL k p=some v):p=(k,.loc v):=ob_e h fun _ e h=>by rw [fld_eq e,locV_eq h]
noncomputable def fldD (k:Nat) (p:Nat×AV) (d:DV):Bool:=optB (ob (fld k p) dV) fun c=>dvE c d
theorem fldD_eq {k:Nat} {p:Nat×AV} {d:DV} (h:fldD k p d=true):p=(k,.dat d):=optB_e h fun _ e q=>ob_e e fun _ e e1=>by rw [fld_eq e,dV_eq e1,dvE_eq q]
noncomputable def deq (a b:DV):Bool:=PyData.eqv (pyD a) (pyD b)
noncomputable def Tk (d:DV):Prop:=isNoneD d=false∧depD d≤20
theorem nk_tk (i:Nat):Tk (nk i):=⟨rfl,Nat.le_of_ble_eq_true rfl⟩
noncomputable def pureE (f:List AV→Option AV) (vs:List AV) (H:Hp):Option (AV×Hp):=gb (closedL vs) (ob (f vs) fun v=>gb (closedV v) (some (v,H)))
theorem pureE_e {P:Prop} {f:List AV→Option AV} {vs:List AV} {H H':Hp} {v:AV} (e:pureE f vs H=some (v,H')) (k:H'=H→f vs=some v→P):P:=gb_e e fun _ e=>ob_e e fun u e1 e=>gb_e e fun _ e=>pr_e e fun a b=>k b.symm (a ▸ e1)
noncomputable abbrev CE:=Nat×Nat×(List AV→Hp→Option (AV×Hp))
noncomputable def conL (l:List CE):Con:=fun k=>lookN l k
section
variable {w:World} {h:Heap} {K:Frag} {φb:Nat→Option Addr} {I:Opq}
noncomputable def CeOK (w:World) (h:Heap) (K:Frag) (φb:Nat→Option Addr) (I:Opq) (x:CE):Prop:=x.1 < 74∧∀ {vs H v H'},x.2.2 vs H=some (v,H')→CG w h K φb x.1 x.2.1 (putVL I.D vs) (H.map (putO I.D)) (putV I.D v) (H'.map (putO I.D))
theorem conL_ok {l:List CE} (hc:∀ x∈l,CeOK w h K φb I x):ConOK w h K φb I (conL l) :=
 ⟨fun {k} q=>let ⟨x,e⟩:=Option.isSome_iff_exists.mp q;(hc _ (lookN_mem e)).1,fun e1 e2=>(hc _ (lookN_mem e1)).2 e2⟩
theorem pure_ok {k d:Nat} {f:List AV→Option AV} (hk:Nat.blt k 74=true) (hf:∀ {vs v} (H:Hp),f vs=some v→CF w h K φb k d (putVL I.D vs) H (putV I.D v)):CeOK w h K φb I (k,d,pureE f) :=
 ⟨Nat.le_of_ble_eq_true hk,fun e=>pureE_e e fun z e=>z ▸ hf _ e⟩
end
noncomputable def lookD (l:List (DV×DV)) (d:DV):Option DV:=lrec none (fun p _ q=>cond (dvE p.1 d) (some p.2) q) l
theorem lookD_mem {l:List (DV×DV)} {d v:DV} (h:lookD l d=some v):(d,v)∈l:=by
 induction l with
 | nil=>exact nos h
 | cons p r ih =>
  replace h:cond (dvE p.1 d) (some p.2) (lookD r d)=some v:=h
  cases q:dvE p.1 d with
  | true=>rw [q] at h;rw [← Option.some.inj h,← dvE_eq q];exact List.mem_cons_self ..
  | false=>rw [q] at h;exact List.mem_cons_of_mem _ (ih h)
noncomputable def tab1 (l:List (DV×DV)) (vs:List AV):Option AV:=ob (v1 vs) fun a=>ob (dV a) fun d=>ob (lookD l d) fun v=>some (.dat v)
noncomputable def AtS (H:Hp) (n m r:Nat) (fu:Int):Prop:=H[n]?=some (.ns [(4,.rinst 4 0),(81,.dat (.int fu))])∧H[m]?=some (.ns [(58,.loc r),(59,.dat (.int 0))])∧H[r]?=some (.dict [])
noncomputable def atSearch (H:Hp) (n m:Nat):Option (Nat×Int):=ob (nO H[n]?) fun l=>ob (v2 l) fun p=>ob (nO H[m]?) fun k=>ob (v2 k) fun q=>ob (fldI 81 p.2) fun fu=>ob (fldL 58 q.1) fun r =>
 gb (fldR 4 p.1) (gb (fldD 59 q.2 (.int 0)) (gb (nilD H[r]?) (some (r,fu))))
theorem atSearch_ok {H:Hp} {n m:Nat} {x:Nat×Int} (h:atSearch H n m=some x):AtS H n m x.1 x.2 :=
 ob_e h fun _ a h=>ob_e h fun _ b h=>ob_e h fun _ c h=>ob_e h fun _ d h=>ob_e h fun _ e h=>ob_e h fun _ f h=>gb_e h fun u h=>gb_e h fun v h=>gb_e h fun w h=>by
  rw [← Option.some.inj h]
  exact ⟨by rw [nO_eq a,v2_eq b,fldR_eq u,fldI_eq e],by rw [nO_eq c,v2_eq d,fldL_eq f,fldD_eq v],nilD_eq w⟩
theorem map_at' {H:Hp} {n:Nat} {o:AO} {f:AO→AO} (h:H[n]?=some o):(H.map f)[n]?=some (f o):=by rw [List.getElem?_map,h];rfl
theorem AtS.put {D:Nat→DV} {H:Hp} {n m r:Nat} {fu:Int} (h:AtS H n m r fu):AtS (H.map (putO D)) n m r fu:=⟨map_at' h.1,map_at' h.2.1,map_at' h.2.2⟩
theorem AtS.nd {H:Hp} {n m r:Nat} {fu:Int} (h:AtS H n m r fu):[n,m,r].Nodup:=nd3 (ne3 tagO h.1 h.2.1 rfl) (ne3 tagO h.1 h.2.2 rfl) (ne3 tagO h.2.1 h.2.2 rfl)
noncomputable def bitV (b:Bool):AV:=cond b .obj (.dat .none)
theorem bit_put (D:Nat→DV) (b:Bool):putV D (bitV b)=bitV b:=by cases b <;> rfl
theorem bit_clo (b:Bool):closedV (bitV b)=true:=by cases b <;> rfl
end
section
structure PC where
 na:Nat
 nc:Nat
 eac:Bool
 ex1:Bool
 ex2:Bool
 l11:Bool
 l12:Bool
 l21:Bool
 l22:Bool
 deriving DecidableEq
noncomputable def PC.below (c:PC):Bool:=cond (Nat.beq c.na 1) (cond (Nat.beq c.nc 1) c.l11 (c.l11||c.l12)) (cond (Nat.beq c.nc 1) (c.l11&&c.l21) ((c.l11||c.l12)&&(c.l21||c.l22)))
noncomputable def atN (a:List Nat) (i:Nat):Nat:=a.getD i 99
noncomputable def lqb (a b:List Nat):Bool:=listBeq a b
noncomputable def pcOf (a c:List Nat):PC :=
 {na:=a.length,nc:=c.length,eac:=lqb a c,ex1:=lqb c [atN a 0],ex2:=lqb c [atN a 1],
  l11:=leN (atN a 0) (atN c 0),l12:=leN (atN a 0) (atN c 1),l21:=leN (atN a 1) (atN c 0),l22:=leN (atN a 1) (atN c 1)}
@[reducible] noncomputable def stE (pcs:List PC):OpqE:=⟨fun i j=>ob pcs[i / 10]? fun c=>gb (Nat.beq (i / 10) (j / 10)&&Nat.beq (j % 10) 3) [c.eac,c.ex1,c.ex2][i % 10]?⟩
noncomputable def tokP (p:List Nat×List Nat) (r:Nat):DV:=[kd p.1,nk (atN p.1 0),nk (atN p.1 1),kd p.2,nk (atN p.2 0),nk (atN p.2 1)].getD r (nk 0)
noncomputable def tokD (ps:List (List Nat×List Nat)) (t:Nat):DV:=Option.rec (nk 0) (fun p=>tokP p (t % 10)) ps[t / 10]?
noncomputable def InLots (ps:List (List Nat×List Nat)):Prop:=∀ p∈ps,p.1∈lotL∧p.2∈lotL
theorem kd_eq:lotL.all (fun a=>lotL.all fun c=>[deq (kd a) (kd c),deq (nk (atN a 0)) (kd c),deq (nk (atN a 1)) (kd c)]==[lqb a c,lqb c [atN a 0],lqb c [atN a 1]])=true:=by decide +kernel
theorem kd_tks:lotL.all (fun a=>!isNoneD (kd a)&&Nat.ble (depD (kd a)) 4)=true:=by decide +kernel
theorem lot_tk {a:List Nat} (h:a∈lotL):Tk (kd a):=and_e (List.all_eq_true.mp kd_tks a h) fun x y=>⟨(Bool.not_eq_true' _).mp x,Nat.le_trans (Nat.le_of_ble_eq_true y) (by decide)⟩
theorem tok_all {ps:List (List Nat×List Nat)} (hp:InLots ps) {P:DV→Prop} (h1:∀ l∈lotL,P (kd l)) (h2:∀ i,P (nk i)) (t:Nat):P (tokD ps t):=by
 unfold tokD
 cases e:ps[t / 10]? with
 | none=>exact h2 0
 | some p =>
  obtain ⟨ha,hc⟩:=hp p (List.mem_of_getElem? e)
  have:∀ d∈[kd p.1,nk (atN p.1 0),nk (atN p.1 1),kd p.2,nk (atN p.2 0),nk (atN p.2 1)],P d:=cons_mem (h1 _ ha) (cons_mem (h2 _) (cons_mem (h2 _) (cons_mem (h1 _ hc) (cons_mem (h2 _) (one_mem (h2 _))))))
  show P (List.getD _ _ _)
  rw [List.getD_eq_getElem?_getD]
  cases q:[kd p.1,nk (atN p.1 0),nk (atN p.1 1),kd p.2,nk (atN p.2 0),nk (atN p.2 1)][t % 10]? with
  | none=>exact h2 0
  | some d=>exact this d (List.mem_of_getElem? q)
theorem tok_eq {ps:List (List Nat×List Nat)} (hp:InLots ps) {i j:Nat} {b:Bool} (h:(stE (ps.map fun p=>pcOf p.1 p.2)).eqo i j=some b):deq (tokD ps i) (tokD ps j)=b:=ob_e h fun c e h=>gb_e h fun q h=>and_e q fun q1 q2=>by
 rw [List.getElem?_map] at e
 obtain ⟨p,e',rfl⟩:=Option.map_eq_some_iff.mp e
 obtain ⟨ha,hc⟩:=hp p (List.mem_of_getElem? e')
 have q:=beq_iff_eq.mp (List.all_eq_true.mp (List.all_eq_true.mp kd_eq p.1 ha) p.2 hc)
 have ej:tokD ps j=kd p.2:=by unfold tokD;rw [← Nat.eq_of_beq_eq_true q1,e',Nat.eq_of_beq_eq_true q2];rfl
 have ei:tokD ps i=tokP p (i % 10):=by unfold tokD;rw [e']
 rw [ej,ei]
 have h:[lqb p.1 p.2,lqb p.2 [atN p.1 0],lqb p.2 [atN p.1 1]][i % 10]?=some b:=h
 rw [← q] at h
 have tk:∀ {r},[deq (kd p.1) (kd p.2),deq (nk (atN p.1 0)) (kd p.2),deq (nk (atN p.1 1)) (kd p.2)][r]?=some b→deq (tokP p r) (kd p.2)=b:=fun {r} h=>by
  cases r with
  | zero=>exact Option.some.inj h
  | succ r=>cases r with
   | zero=>exact Option.some.inj h
   | succ r=>cases r with
    | zero=>exact Option.some.inj h
    | succ r=>exact nos h
 exact tk h
@[reducible] noncomputable def tokI (ps:List (List Nat×List Nat)) (hp:InLots ps):Opq :=
 {toOpqE:=stE (ps.map fun p=>pcOf p.1 p.2),D:=tokD ps,nn:=fun i=>(tok_all hp (fun _=>lot_tk) nk_tk i).1,dep:=fun i=>(tok_all hp (fun _=>lot_tk) nk_tk i).2,eqk:=fun e=>tok_eq hp e}
noncomputable def goalT (d:DV):Option Nat:=ob (asLst d) fun l=>ob (v1 l) fun g=>ob (asTup g) fun l=>ob (v3 l) fun t=>ob (asOpq t.2.1) fun i=>gb (dvE t.1 subW) (gb (dvE t.2.2 (.opq 1)) (gb (Nat.ble 2 i) (some (i - 2))))
theorem goalT_eq {d:DV} {i:Nat} (h:goalT d=some i):d=.lst [goalD (.opq (i+2)) (.opq 1)]:=ob_e h fun _ a h=>ob_e h fun _ b h=>ob_e h fun _ c h=>ob_e h fun _ d h=>ob_e h fun _ f h=>gb_e h fun u h=>gb_e h fun v h=>gb_e h fun w h=>by
 rw [← Option.some.inj h,asLst_eq a,v1_eq b,asTup_eq c,v3_eq d,asOpq_eq f,dvE_eq u,dvE_eq v,Nat.sub_add_cancel (Nat.le_of_ble_eq_true w)];rfl
noncomputable def cRun (bits:List Bool) (vs:List AV) (H:Hp):Option (AV×Hp):=ob (v3 vs) fun t=>ob (instK 1 t.1) fun n=>ob (dV t.2.1) fun d=>ob (instK 0 t.2.2) fun m=>ob (goalT d) fun i=>ob bits[i]? fun b=>ob (atSearch H n m) fun x=>gb (decide (x.2=4000)) (some (bitV b,H.set n .lost))
noncomputable def cCase (m:Nat) (vs:List AV):Option AV:=ob (v1 vs) fun a=>ob (dV a) fun d=>gb (dvE d (.opq 0)) (some (.dat (.lst ((List.range m).map fun i=>.opq (i+2)))))
noncomputable def conGen (bits:List Bool):Con:=conL [(k_left_cases,20,pureE (cCase bits.length)),(k_Search_run,34,cRun bits)]
@[reducible] noncomputable def genE (e:Bool):OpqE:=⟨fun i j=>gb (Nat.beq i 0&&Nat.beq j 1) (some e)⟩
noncomputable def genRun (e:Bool) (bits:List Bool):Option AV:=@runF (genE e) (cfg base1 (conGen bits)) 100 k_is_subtype 40 [.rinst 4 0,.dat (.opq 0),.dat (.opq 1)]
noncomputable def allBits (l:List Bool):Bool:=lrec true (fun b _ q=>b&&q) l
noncomputable def boolL:Nat→List (List Bool):=Nat.rec [[]] fun _ q=>(q.map (true::·))++q.map (false::·)
theorem boolL_mem {l:List Bool}:l∈boolL l.length:=by
 induction l with
 | nil=>exact List.mem_cons_self ..
 | cons b l ih =>
  refine List.mem_append.mpr ?_
  cases b with
  | true=>exact .inl (List.mem_map_of_mem ih)
  | false=>exact .inr (List.mem_map_of_mem ih)
noncomputable def genL (n:Nat):List (Bool×List Bool):=(boolL n).flatMap fun l=>[(true,l),(false,l)]
noncomputable def genAll (n:Nat):Prop:=(genL n).map (fun x=>genRun x.1 x.2)=(genL n).map fun x=>some (.dat (.bool (x.1||allBits x.2)))
theorem gens:genAll 1∧genAll 2∧genAll 4:=⟨by unfold genAll;kernel_rfl,by unfold genAll;kernel_rfl,by unfold genAll;kernel_rfl⟩
theorem gen_at {n:Nat} (h:genAll n) (e:Bool) {l:List Bool} (hl:l.length=n):genRun e l=some (.dat (.bool (e||allBits l))):=by
 have m:(e,l)∈genL n:=by
  subst hl
  refine List.mem_flatMap.mpr ⟨l,boolL_mem,?_⟩
  cases e with
  | true=>exact List.mem_cons_self ..
  | false=>exact List.mem_cons_of_mem _ (List.mem_cons_self ..)
 have h':(genL n).map (fun x=>genRun x.1 x.2)=(genL n).map fun x=>some (.dat (.bool (x.1||allBits x.2))):=h
 have z:=List.map_inj_left.mp h' _ m
 dsimp only at z
 exact z
noncomputable def genD (one other:DV) (cases:List DV) (t:Nat):DV:=Nat.rec one (fun t _=>Nat.rec other (fun t _=>cases.getD t one) t) t
theorem getD_all {P:DV→Prop} {l:List DV} {a:DV} (h1:P a) (h:∀ c∈l,P c) (t:Nat):P (l.getD t a):=by
 rw [List.getD_eq_getElem?_getD]
 cases e:l[t]? with
 | none=>exact h1
 | some c=>exact h c (List.mem_of_getElem? e)
theorem genD_tk {one other:DV} {cases:List DV} (h1:Tk one) (h2:Tk other) (h3:∀ c∈cases,Tk c) (t:Nat):Tk (genD one other cases t):=by
 cases t with
 | zero=>exact h1
 | succ t=>cases t with
  | zero=>exact h2
  | succ t=>exact getD_all h1 h3 t
theorem gen_eq {one other:DV} {cases:List DV} {i j:Nat} {b:Bool} (e:gb (Nat.beq i 0&&Nat.beq j 1) (some (deq one other))=some b):deq (genD one other cases i) (genD one other cases j)=b:=gb_e e fun q e=>and_e q fun q1 q2=>by
 rw [Nat.eq_of_beq_eq_true q1,Nat.eq_of_beq_eq_true q2];exact Option.some.inj e
@[reducible] noncomputable def genI (one other:DV) (cases:List DV) (h:∀ t,Tk (genD one other cases t)):Opq :=
 {toOpqE:=genE (deq one other),D:=genD one other cases,nn:=fun t=>(h t).1,dep:=fun t=>(h t).2,
  eqk:=fun e=>gen_eq e}
theorem subDL_map {α:Type} (D:Nat→DV) (f:α→DV) (l:List α):subDL D (l.map f)=l.map fun x=>subD D (f x):=by
 induction l with
 | nil=>rfl
 | cons a l ih=>exact congrArg (List.cons _) ih
theorem range_getD {l:List DV} {a:DV}:((List.range l.length).map fun i=>l.getD i a)=l:=by
 refine List.ext_getElem (by rw [List.length_map,List.length_range]) fun i h1 h2=>?_
 rw [List.getElem_map,List.getElem_range,List.getD_eq_getElem?_getD,List.getElem?_eq_getElem h2];rfl
section
variable {w:World} {h:Heap} {K:Frag} {φb:Nat→Option Addr}
noncomputable def RunF (w:World) (h:Heap) (K:Frag) (φb:Nat→Option Addr) (one other:DV) (b:Bool):Prop:=∀ (H:Hp) (n m r:Nat),AtS H n m r 4000→CG w h K φb k_Search_run 34 [.inst 1 n,.dat (.lst [goalD one other]),.inst 0 m] H (bitV b) (H.set n .lost)
theorem genOK {one other:DV} {cases:List DV} {bits:List Bool} (ht:∀ t,Tk (genD one other cases t)) (hm:bits.length=cases.length)
  (hcases:∀ H,CF w h K φb k_left_cases 20 [.dat one] H (.dat (.lst cases)))
  (hrun:∀ (i:Nat) (c:DV) (b:Bool),cases[i]?=some c→bits[i]?=some b→RunF w h K φb c other b) :
  ConOK w h K φb (genI one other cases ht) (conGen bits):=by
 refine conL_ok (cons_mem (pure_ok rfl fun H ev=>ob_e ev fun a g1 ev=>ob_e ev fun d g2 ev=>gb_e ev fun g3 ev=>?_) (one_mem ⟨Nat.le_of_ble_eq_true rfl,fun {vs H v H'} e2=>ob_e e2 fun t e1 e=>ob_e e fun n e3 e=>ob_e e fun d e4 e=>ob_e e fun m e5 e=>ob_e e fun i e6 e=>ob_e e fun b e7 e=>ob_e e fun x e8 e=>gb_e e fun e9 e=>pr_e e fun z1 z2=>?_⟩))
 ·rw [← Option.some.inj ev,v1_eq g1,dV_eq g2,dvE_eq g3]
  show CF w h K φb k_left_cases 20 [.dat one] _ (.dat (.lst (subDL _ _)))
  rw [subDL_map,hm]
  have:((List.range cases.length).map fun i=>subD (genD one other cases) (.opq (i+2)))=cases:=range_getD
  rw [this]
  exact hcases _
 ·rw [← z1,← z2,v3_eq e1,instK_eq e3,dV_eq e4,instK_eq e5,goalT_eq e6,List.map_set,bit_put]
  have hlt:i < cases.length:=hm ▸ (List.getElem?_eq_some_iff.mp e7).1
  have hs:=atSearch_ok e8
  rw [of_decide_eq_true e9] at hs
  exact hrun i (cases.getD i one) b (by rw [List.getD_eq_getElem?_getD,List.getElem?_eq_getElem hlt];rfl) e7 _ n m x.1 hs.put
theorem sub_gen (E:Wd h K) {one other:DV} {cases:List DV} {bits:List Bool} (h1:Tk one) (h2:Tk other) (h3:∀ c∈cases,Tk c) (hm:bits.length=cases.length) (hl:bits.length=1∨bits.length=2∨bits.length=4)
  (hcases:∀ H,CF w h K φb k_left_cases 20 [.dat one] H (.dat (.lst cases)))
  (hrun:∀ (i:Nat) (c:DV) (b:Bool),cases[i]?=some c→bits[i]?=some b→RunF w h K φb c other b) (H:Hp) :
  CF w h K φb k_is_subtype 40 [.rinst 4 0,.dat one,.dat other] H (.dat (.bool (deq one other||allBits bits))):=by
 have ht:=genD_tk h1 h2 h3
 have e:genRun (deq one other) bits=some (.dat (.bool (deq one other||allBits bits))):=hl.elim (gen_at gens.1 _) fun hl=>hl.elim (gen_at gens.2.1 _) (gen_at gens.2.2 _)
 exact layer_pure (I:=genI one other cases ht) E (genOK ht hm hcases hrun) (vs:=[.rinst 4 0,.dat (.opq 0),.dat (.opq 1)]) e rfl rfl H
noncomputable def StepF (w:World) (h:Heap) (K:Frag) (φb:Nat→Option Addr) (g d:DV):Prop:=∀ (H:Hp) (n m r:Nat) (fu:Int),AtS H n m r fu→CF w h K φb k_Search_step 22 [.inst 1 n,.dat g,.inst 0 m] H (.dat d)
noncomputable def stepTab (l:List (DV×DV)) (vs:List AV) (H:Hp):Option (AV×Hp):=ob (v3 vs) fun t=>ob (instK 1 t.1) fun n=>ob (dV t.2.1) fun g=>ob (instK 0 t.2.2) fun m=>ob (atSearch H n m) fun _=>ob (lookD l g) fun d=>some (.dat d,H)
noncomputable def conStep (l:List (DV×DV)):Con:=conL [(k_Search_step,22,stepTab l)]
variable {I:Opq} {con:Con}
theorem stepTabOK {l:List (DV×DV)} (hl:∀ x∈l,StepF w h K φb (subD I.D x.1) (subD I.D x.2)):ConOK w h K φb I (conStep l) :=
 conL_ok (one_mem ⟨Nat.le_of_ble_eq_true rfl,fun {vs H v H'} e2=>ob_e e2 fun t a e=>ob_e e fun n b e=>ob_e e fun g c e=>ob_e e fun m d e=>ob_e e fun x f e=>ob_e e fun y el e=>pr_e e fun z1 z2=>by
  rw [← z1,← z2,v3_eq a,instK_eq b,dV_eq c,instK_eq d]
  exact hl _ (lookD_mem el) _ n m x.1 x.2 (atSearch_ok f).put⟩)
theorem tab1_ok {k d:Nat} {l:List (DV×DV)} (hk:Nat.blt k 74=true) (hl:∀ x∈l,∀ H,CF w h K φb k d [.dat (subD I.D x.1)] H (.dat (subD I.D x.2))):CeOK w h K φb I (k,d,pureE (tab1 l)) :=
 pure_ok hk fun H e=>ob_e e fun a e1 e=>ob_e e fun x e2 e=>ob_e e fun y e3 e=>by
  rw [← Option.some.inj e,v1_eq e1,dV_eq e2]
  exact hl _ (lookD_mem e3) H
theorem step_tok (E:Wd h K) (c:ConOK w h K φb I con) {g d:DV} (e:∀ fu,resF 3 (@runH I.toOpqE (cfg base1 con) 150 k_Search_step 20 [.inst 1 0,.dat g,.inst 0 1] (Hs fu))=some (.dat d,Hs fu)):StepF w h K φb (subD I.D g) (subD I.D d):=fun H n m r fu hs=>by
 have r:=layer_sub (vs:=[.inst 1 0,.dat g,.inst 0 1]) (H0:=Hs fu) (ix:=[n,m,r]) E c (e fu) rfl rfl rfl rfl rfl hs.nd (part3 hs.1 hs.2.1 hs.2.2)
 exact CG.mono r (Nat.le_of_ble_eq_true rfl)
theorem run_tok (E:Wd h K) (c:ConOK w h K φb I con) {a b:DV} {t:Bool} (e:resL 3 (@runH I.toOpqE (cfg base1 con) 150 k_Search_run 32 [.inst 1 0,.dat (.lst [goalD a b]),.inst 0 1] (Hs 4000))=some (bitV t,(Hs 4000).drop 1)):RunF w h K φb (subD I.D a) (subD I.D b) t:=fun H n m r hs=>by
 have r:=layer_lose (vs:=[.inst 1 0,.dat (.lst [goalD a b]),.inst 0 1]) (H0:=Hs 4000) (ix:=[n,m,r]) (H:=H) E c e rfl (bit_clo t) rfl rfl rfl hs.nd (part3 hs.1 hs.2.1 hs.2.2)
 rw [bit_put] at r
 exact CG.mono r (Nat.le_of_ble_eq_true rfl)
end
end
section
noncomputable def tupW:List Nat:=[116,117,112,108,101]
noncomputable def tuD (ps:List DV):DV:=.tup [.str tupW,.tup ps,.none]
noncomputable def opqL (l:List DV):Option (List Nat):=lrec (some []) (fun d _ q=>ob (asOpq d) fun i=>ob q fun l=>some (i::l)) l
theorem opqL_eq {l:List DV}:∀ {is:List Nat},opqL l=some is→l=is.map .opq:=by
 induction l with
 | nil=>exact fun h=>by rw [← Option.some.inj h];rfl
 | cons d r ih=>exact fun h=>ob_e h fun i e h=>ob_e h fun l e1 h=>by rw [← Option.some.inj h,asOpq_eq e,ih e1];rfl
noncomputable def tupP (d:DV):Option (List DV):=ob (asTup d) fun l=>ob (v3 l) fun t=>ob (asTup t.2.1) fun ps=>gb (dvE t.1 (.str tupW)) (gb (isNoneD t.2.2) (some ps))
theorem tupP_eq {d:DV} {ps:List DV} (h:tupP d=some ps):d=tuD ps:=ob_e h fun l e h=>ob_e h fun t e1 h=>ob_e h fun k e3 h=>gb_e h fun e4 h=>gb_e h fun e5 h=>by
 rw [← Option.some.inj h,asTup_eq e,v3_eq e1,asTup_eq e3,dvE_eq e4,isNoneD_eq e5];rfl
noncomputable def noV:AV:=.dat (.bool false)
noncomputable def cE0 (vs:List AV):Option AV:=ob (v1 vs) fun a=>ob (dV a) fun d=>ob (asOpq d) fun _=>some noV
noncomputable def cEmpty (vs:List AV):Option AV:=ob (v1 vs) fun a=>ob (dV a) fun d=>alt (ob (asOpq d) fun _=>some noV) (ob (tupP d) fun ps=>ob (opqL ps) fun is=>gb (!is.isEmpty&&Nat.ble is.length 3) (some noV))
noncomputable def conE0:Con:=conL [(k_is_empty,12,pureE cE0)]
noncomputable def conE:Con:=conL [(k_is_empty,14,pureE cEmpty)]
noncomputable def emptyT (e:OpqE) (l:List DV):Prop:=@runF e (cfg base1 conE0) 60 k_is_empty 13 [.dat (tuD l)]=some noV
theorem emptyTs (e:OpqE) (a b c:Nat):emptyT e [.opq a]∧emptyT e [.opq a,.opq b]∧emptyT e [.opq a,.opq b,.opq c]:=⟨by unfold emptyT;kernel_rfl,by unfold emptyT;kernel_rfl,by unfold emptyT;kernel_rfl⟩
noncomputable def yn (b:Bool):DV:=.lst (cond b [.lst []] [])
noncomputable def tupWays (pcs:List PC):DV:=cond (pcs.all fun c=>c.ex1) (yn true) (.lst [.lst ((List.range pcs.length).map fun p=>goalD (.opq (10 * p+1)) (.opq (10 * p+3)))])
noncomputable def okStep (pcs:List PC) (xs ys:List DV) (d:DV):Prop:=∀ fu,resF 3 (@runH (stE pcs) (cfg base1 conE) 150 k_Search_step 20 [.inst 1 0,.dat (goalD (tuD xs) (tuD ys)),.inst 0 1] (Hs fu))=some (.dat d,Hs fu)
theorem stepT (c:PC) (d:PC) (f:PC):(okStep [c] [.opq 1] [.opq 3] (tupWays [c])∧okStep [c,d] [.opq 1,.opq 11] [.opq 3,.opq 13] (tupWays [c,d])∧okStep [c,d] [.opq 1] [.opq 3,.opq 13] (.lst []))∧okStep [c,d] [.opq 1,.opq 11] [.opq 3] (.lst []) ∧
  okStep [c,d,f] [.opq 1,.opq 11,.opq 21] [.opq 3,.opq 13] (.lst [])∧okStep [c,d,f] [.opq 1,.opq 11] [.opq 3,.opq 13,.opq 23] (.lst []):=by
 obtain ⟨na,nc,eac,e1,e2,l11,l12,l21,l22⟩:=c
 obtain ⟨na',nc',eac',f1,f2,k11,k12,k21,k22⟩:=d
 cases e1 <;> cases f1 <;> exact ⟨⟨fun fu=>by kernel_rfl,fun fu=>by kernel_rfl,fun fu=>by kernel_rfl⟩,fun fu=>by kernel_rfl,fun fu=>by kernel_rfl,fun fu=>by kernel_rfl⟩
section
variable {w:World} {h:Heap} {K:Frag} {φb:Nat→Option Addr}
theorem emptyN_run (s:List Nat):@runF opq0.toOpqE (cfg base1 noC) 60 k_is_empty 10 [.dat (.tup [.str [110,97,109,101],.str s,.tup []])]=some (.dat (.bool false)):=by kernel_rfl
theorem emptyTok (E:Wd h K) {ps:List (List Nat×List Nat)} (hp:InLots ps) (t:Nat) (H:Hp):CF w h K φb k_is_empty 10 [.dat (tokD ps t)] H noV :=
 tok_all hp (P:=fun d=>CF w h K φb k_is_empty 10 [.dat d] H noV) (fun l hl=>closed_call E (List.map_inj_left.mp empty_run l hl) rfl rfl H) (fun i=>closed_call E (emptyN_run _) rfl rfl H) t
theorem conE0_ok (E:Wd h K) {ps:List (List Nat×List Nat)} (hp:InLots ps):ConOK w h K φb (tokI ps hp) conE0 :=
 conL_ok (one_mem (pure_ok rfl fun H ev=>ob_e ev fun a g1 ev=>ob_e ev fun d g2 ev=>ob_e ev fun t g3 ev=>by
  rw [← Option.some.inj ev,v1_eq g1,dV_eq g2,asOpq_eq g3]
  exact CG.mono (emptyTok E hp t _) (Nat.le_of_ble_eq_true rfl)))
theorem conE_ok (E:Wd h K) {ps:List (List Nat×List Nat)} (hp:InLots ps):ConOK w h K φb (tokI ps hp) conE :=
 conL_ok (one_mem (pure_ok rfl fun H ev=>ob_e ev fun a g1 ev=>ob_e ev fun d g2 ev=>alt_e ev (fun ev=>ob_e ev fun t g3 ev=>by
   rw [← Option.some.inj ev,v1_eq g1,dV_eq g2,asOpq_eq g3]
   exact CG.mono (emptyTok E hp t _) (Nat.le_of_ble_eq_true rfl)) fun ev=>ob_e ev fun l e4 ev=>ob_e ev fun is e5 ev=>gb_e ev fun e6 ev=>by
  rw [← Option.some.inj ev,v1_eq g1,dV_eq g2,tupP_eq e4,opqL_eq e5]
  have em:emptyT (tokI ps hp).toOpqE (is.map .opq)→CF w h K φb k_is_empty 14 (putVL (tokI ps hp).D [.dat (tuD (is.map .opq))]) H (putV (tokI ps hp).D noV):=fun e=>CG.mono (layer_pure (I:=tokI ps hp) E (conE0_ok E hp) e rfl rfl H) (Nat.le_of_ble_eq_true rfl)
  refine em ?_
  refine and_e e6 fun z1 z2=>?_
  cases is with
  | nil=>exact nft z1
  | cons a is=>cases is with
   | nil=>exact (emptyTs _ a a a).1
   | cons b is=>cases is with
    | nil=>exact (emptyTs _ a b b).2.1
    | cons c is=>cases is with
     | nil=>exact (emptyTs _ a b c).2.2
     | cons=>exact nft z2))
noncomputable def partTab (p:Nat) (c:PC):List (DV×DV):=cond (Nat.beq c.nc 1) [(goalD (.opq (10 * p+1)) (.opq (10 * p+3)),yn c.l11)]
 [(goalD (.opq (10 * p+1)) (.opq (10 * p+3)),.lst [.lst [goalD (.opq (10 * p+1)) (.opq (10 * p+4))],.lst [goalD (.opq (10 * p+1)) (.opq (10 * p+5))]]),
  (goalD (.opq (10 * p+1)) (.opq (10 * p+4)),yn c.l11),(goalD (.opq (10 * p+1)) (.opq (10 * p+5)),yn c.l12)]
noncomputable def caseD (k:Nat):DV:=tuD ((List.range k).map fun p=>.opq (10 * p+1))
noncomputable def otherD (k:Nat):DV:=tuD ((List.range k).map fun p=>.opq (10 * p+3))
noncomputable def elL:List (Bool×Bool):=[(true,true),(false,true),(false,false)]
noncomputable def bools:List Bool:=[true,false]
noncomputable def pc7:List PC:=(elL.map fun q=>(⟨1,1,q.1,q.1,false,q.2,false,false,false⟩:PC))++(bools.flatMap fun l1=>bools.map fun l2=>(⟨1,2,false,false,false,l1,l2,false,false⟩:PC))
theorem pc7_all:(List.range 10).all (fun x=>lotL.all fun c=>decide (pcOf [x] c∈pc7))=true:=by decide +kernel
noncomputable def runTok (pcs:List PC) (tab:List (DV×DV)) (a b:DV):Option (AV×Hp):=resL 3 (@runH (stE pcs) (cfg base1 (conStep tab)) 150 k_Search_run 32 [.inst 1 0,.dat (.lst [goalD a b]),.inst 0 1] (Hs 4000))
noncomputable def tab1S (c:PC):List (DV×DV):=(goalD (caseD 1) (otherD 1),tupWays [c])::partTab 0 c
noncomputable def tab2S (c d:PC):List (DV×DV):=(goalD (caseD 2) (otherD 2),tupWays [c,d])::(partTab 0 c++partTab 1 d)
theorem run0:pc7.map (fun c=>runTok [c] (partTab 0 c) (.opq 1) (.opq 3))=pc7.map fun c=>some (bitV c.below,(Hs 4000).drop 1):=by kernel_rfl
theorem run1:pc7.map (fun c=>runTok [c] (tab1S c) (caseD 1) (otherD 1))=pc7.map fun c=>some (bitV c.below,(Hs 4000).drop 1):=by kernel_rfl
noncomputable def pc49:List (PC×PC):=pc7.flatMap fun c=>pc7.map fun d=>(c,d)
theorem run2:pc49.map (fun c=>runTok [c.1,c.2] (tab2S c.1 c.2) (caseD 2) (otherD 2))=pc49.map fun c=>some (bitV (c.1.below&&c.2.below),(Hs 4000).drop 1):=by kernel_rfl
noncomputable def runNo (k l:Nat) (e:OpqE):Prop:=resL 3 (@runH e (cfg base1 (conStep [(goalD (caseD k) (otherD l),.lst [])])) 150 k_Search_run 32 [.inst 1 0,.dat (.lst [goalD (caseD k) (otherD l)]),.inst 0 1] (Hs 4000))=some (bitV false,(Hs 4000).drop 1)
theorem runNos (e:OpqE):(runNo 1 2 e∧runNo 2 1 e)∧runNo 3 2 e∧runNo 2 3 e:=⟨⟨by unfold runNo;kernel_rfl,by unfold runNo;kernel_rfl⟩,by unfold runNo;kernel_rfl,by unfold runNo;kernel_rfl⟩
theorem lot_shapes:lotL.all (fun l=>(Nat.beq l.length 1||Nat.beq l.length 2)&&l.all fun x=>Nat.blt x 10)=true:=by decide +kernel
theorem lot_names {l:List Nat} (h:l∈lotL):∀ x∈l,x < 10:=and_e (List.all_eq_true.mp lot_shapes l h) fun _ q x hx=>Nat.le_of_ble_eq_true (List.all_eq_true.mp q x hx)
theorem lot_cases {l:List Nat} (h:l∈lotL):(∃ y,l=[y])∨∃ a b,l=[a,b]:=and_e (List.all_eq_true.mp lot_shapes l h) fun q _=>((Bool.or_eq_true ..).mp q).elim (fun q=>.inl (len1 (Nat.eq_of_beq_eq_true q))) fun q=>.inr (len2 (Nat.eq_of_beq_eq_true q))
theorem one_lots:(List.range 10).all (fun y=>decide ([y]∈lotL))=true:=by decide +kernel
theorem one_lot {y:Nat} (h:y < 10):[y]∈lotL:=of_decide_eq_true (List.all_eq_true.mp one_lots y (List.mem_range.mpr h))
theorem tok_at {ps:List (List Nat×List Nat)} {p r:Nat} {q:List Nat×List Nat} (e:ps[p]?=some q) (hr:Nat.blt r 10=true):tokD ps (10 * p+r)=tokP q r:=by
 have hr:r < 10:=Nat.le_of_ble_eq_true hr
 unfold tokD;rw [show (10 * p+r) / 10=p by omega,e,show (10 * p+r) % 10=r by omega]
theorem step_lot' (E:Wd h K) {x:Nat} {l:List Nat} (hx:x < 10) (hl:l∈lotL):StepF w h K φb (goalD (nk x) (kd l)) (waysL x l) :=
 fun H n m r fu hs=>CG.mono (step_lot E hx hl hs.1 hs.2.1 hs.2.2) (Nat.le_of_ble_eq_true rfl)
theorem yn_put (D:Nat→DV) (b:Bool):subD D (yn b)=yn b:=by cases b <;> rfl
theorem yn_way (x y:Nat):yn (leN x y)=waysL x [y]:=by
 show yn (leN x y)=(match leN x y with | true=>.lst [.lst []] | false=>.lst [])
 cases leN x y <;> rfl
theorem partOK (E:Wd h K) {ps:List (List Nat×List Nat)} {p x:Nat} {c:List Nat} (hps:ps[p]?=some ([x],c)) (hx:x < 10) (hc:c∈lotL) :
  ∀ q∈partTab p (pcOf [x] c),StepF w h K φb (subD (tokD ps) q.1) (subD (tokD ps) q.2):=by
 have t1:tokD ps (10 * p+1)=nk x:=tok_at hps rfl
 have t3:tokD ps (10 * p+3)=kd c:=tok_at hps rfl
 have t4:tokD ps (10 * p+4)=nk (atN c 0):=tok_at hps rfl
 have t5:tokD ps (10 * p+5)=nk (atN c 1):=tok_at hps rfl
 have gp:∀ i j,subD (tokD ps) (goalD (.opq i) (.opq j))=goalD (tokD ps i) (tokD ps j):=fun i j=>rfl
 have nm:=lot_names hc
 rcases lot_cases hc with ⟨y,rfl⟩ | ⟨y,z,rfl⟩
 ·refine one_mem (?_:StepF w h K φb (subD (tokD ps) (goalD _ _)) (subD (tokD ps) (yn (leN x y))))
  rw [gp,t1,t3,yn_put,yn_way]
  exact step_lot' E hx hc
 ·refine cons_mem ?_ (cons_mem (?_:StepF w h K φb (subD (tokD ps) (goalD _ _)) (subD (tokD ps) (yn (leN x y)))) (one_mem (?_:StepF w h K φb (subD (tokD ps) (goalD _ _)) (subD (tokD ps) (yn (leN x z))))))
  ·show StepF w h K φb (goalD (tokD ps (10 * p+1)) (tokD ps (10 * p+3))) (.lst [.lst [goalD (tokD ps (10 * p+1)) (tokD ps (10 * p+4))],.lst [goalD (tokD ps (10 * p+1)) (tokD ps (10 * p+5))]])
   rw [t1,t3,t4,t5]
   exact step_lot' E hx hc
  ·rw [gp,t1,t4,yn_put,yn_way]
   exact step_lot' E hx (one_lot (nm y (List.mem_cons_self ..)))
  ·rw [gp,t1,t5,yn_put,yn_way]
   exact step_lot' E hx (one_lot (nm z (List.mem_cons_of_mem _ (List.mem_cons_self ..))))
noncomputable def nbel (x:Nat) (c:List Nat):Bool:=(pcOf [x] c).below
theorem pc7_mem {x:Nat} {c:List Nat} (hx:x < 10) (hc:c∈lotL):pcOf [x] c∈pc7 :=
 of_decide_eq_true (List.all_eq_true.mp (List.all_eq_true.mp pc7_all x (List.mem_range.mpr hx)) c hc)
theorem run_bare (E:Wd h K) {x:Nat} {c:List Nat} (hx:x < 10) (hc:c∈lotL):RunF w h K φb (nk x) (kd c) (nbel x c) :=
 run_tok E (I:=tokI [([x],c)] (one_mem ⟨one_lot hx,hc⟩)) (stepTabOK (partOK E (p:=0) rfl hx hc)) (a:=.opq 1) (b:=.opq 3) (List.map_inj_left.mp run0 _ (pc7_mem hx hc))
noncomputable def caseK (xs:List Nat):DV:=tuD (xs.map nk)
noncomputable def sigK (cs:List (List Nat)):DV:=tuD (cs.map kd)
theorem tupStep (E:Wd h K) {ps:List (List Nat×List Nat)} (hp:InLots ps) {xs ys:List DV} {d:DV} (e:okStep (ps.map fun p=>pcOf p.1 p.2) xs ys d) :
  StepF w h K φb (subD (tokD ps) (goalD (tuD xs) (tuD ys))) (subD (tokD ps) d):=step_tok E (I:=tokI ps hp) (conE_ok E hp) e
theorem run_ps (E:Wd h K) {ps:List (List Nat×List Nat)} (hp:InLots ps) {tab:List (DV×DV)} (ok:∀ x∈tab,StepF w h K φb (subD (tokD ps) x.1) (subD (tokD ps) x.2)) {a b:DV} {t:Bool} (e:runTok (ps.map fun p=>pcOf p.1 p.2) tab a b=some (bitV t,(Hs 4000).drop 1)):RunF w h K φb (subD (tokD ps) a) (subD (tokD ps) b) t :=
 run_tok E (I:=tokI ps hp) (stepTabOK ok) e
theorem run_one (E:Wd h K) {x:Nat} {c:List Nat} (hx:x < 10) (hc:c∈lotL):RunF w h K φb (caseK [x]) (sigK [c]) (nbel x c):=by
 have hp:InLots [([x],c)]:=one_mem ⟨one_lot hx,hc⟩
 have r:=run_ps (w:=w) (φb:=φb) E hp (cons_mem (tupStep E hp (stepT (pcOf [x] c) (pcOf [x] c) (pcOf [x] c)).1.1) (partOK E (p:=0) rfl hx hc)) (a:=caseD 1) (b:=otherD 1) (t:=nbel x c) (List.map_inj_left.mp run1 _ (pc7_mem hx hc))
 have ea:subD (tokD [([x],c)]) (caseD 1)=caseK [x]:=by kernel_rfl
 have eb:subD (tokD [([x],c)]) (otherD 1)=sigK [c]:=by kernel_rfl
 rwa [ea,eb] at r
theorem run_two (E:Wd h K) {x y:Nat} {c d:List Nat} (hx:x < 10) (hc:c∈lotL) (hy:y < 10) (hd:d∈lotL):RunF w h K φb (caseK [x,y]) (sigK [c,d]) (nbel x c&&nbel y d):=by
 have hp:InLots [([x],c),([y],d)]:=cons_mem ⟨one_lot hx,hc⟩ (one_mem ⟨one_lot hy,hd⟩)
 have hm:(pcOf [x] c,pcOf [y] d)∈pc49:=List.mem_flatMap.mpr ⟨_,pc7_mem hx hc,List.mem_map_of_mem (pc7_mem hy hd)⟩
 have e:runTok [pcOf [x] c,pcOf [y] d] (tab2S (pcOf [x] c) (pcOf [y] d)) (caseD 2) (otherD 2)=some (bitV ((pcOf [x] c).below&&(pcOf [y] d).below),(Hs 4000).drop 1):=by
  have e0:=List.map_inj_left.mp run2 _ hm
  dsimp only at e0
  exact e0
 have r:=run_ps (w:=w) (φb:=φb) E hp (cons_mem (tupStep E hp (stepT (pcOf [x] c) (pcOf [y] d) (pcOf [x] c)).1.2.1) fun q hq=>(List.mem_append.mp hq).elim (partOK E (p:=0) rfl hx hc q) (partOK E (p:=1) rfl hy hd q)) (a:=caseD 2) (b:=otherD 2) (t:=nbel x c&&nbel y d) e
 have ea:subD (tokD [([x],c),([y],d)]) (caseD 2)=caseK [x,y]:=by kernel_rfl
 have eb:subD (tokD [([x],c),([y],d)]) (otherD 2)=sigK [c,d]:=by kernel_rfl
 rwa [ea,eb] at r
theorem run_no (E:Wd h K) {ps:List (List Nat×List Nat)} (hp:InLots ps) {k l:Nat} {a b:DV} (ts:okStep (ps.map fun p=>pcOf p.1 p.2) ((List.range k).map fun p=>.opq (10 * p+1)) ((List.range l).map fun p=>.opq (10 * p+3)) (.lst [])) (rn:runNo k l (tokI ps hp).toOpqE)
  (ea:subD (tokD ps) (caseD k)=a) (eb:subD (tokD ps) (otherD l)=b):RunF w h K φb a b false:=by
 rw [← ea,← eb]
 exact run_ps E hp (tab:=[(goalD (caseD k) (otherD l),.lst [])]) (one_mem (tupStep E hp ts)) rn
theorem zero_lot:([0]:List Nat)∈lotL:=one_lot (by decide)
variable {x y z:Nat} {c d f:List Nat}
theorem run_12 (E:Wd h K) (hx:x < 10) (hc:c∈lotL) (hd:d∈lotL):RunF w h K φb (caseK [x]) (sigK [c,d]) false :=
 run_no E (ps:=[([x],c),([0],d)]) (cons_mem ⟨one_lot hx,hc⟩ (one_mem ⟨zero_lot,hd⟩)) (k:=1) (l:=2) (stepT (pcOf [x] c) (pcOf [0] d) (pcOf [x] c)).1.2.2 (runNos _).1.1 (by kernel_rfl) (by kernel_rfl)
theorem run_21 (E:Wd h K) (hx:x < 10) (hc:c∈lotL) (hy:y < 10):RunF w h K φb (caseK [x,y]) (sigK [c]) false :=
 run_no E (ps:=[([x],c),([y],[0])]) (cons_mem ⟨one_lot hx,hc⟩ (one_mem ⟨one_lot hy,zero_lot⟩)) (k:=2) (l:=1) (stepT (pcOf [x] c) (pcOf [y] [0]) (pcOf [x] c)).2.1 (runNos _).1.2 (by kernel_rfl) (by kernel_rfl)
theorem run_32 (E:Wd h K) (hx:x < 10) (hc:c∈lotL) (hy:y < 10) (hd:d∈lotL) (hz:z < 10):RunF w h K φb (caseK [x,y,z]) (sigK [c,d]) false :=
 run_no E (ps:=[([x],c),([y],d),([z],[0])]) (cons_mem ⟨one_lot hx,hc⟩ (cons_mem ⟨one_lot hy,hd⟩ (one_mem ⟨one_lot hz,zero_lot⟩))) (k:=3) (l:=2) (stepT (pcOf [x] c) (pcOf [y] d) (pcOf [z] [0])).2.2.1 (runNos _).2.1 (by kernel_rfl) (by kernel_rfl)
theorem run_23 (E:Wd h K) (hx:x < 10) (hc:c∈lotL) (hy:y < 10) (hd:d∈lotL) (hf:f∈lotL):RunF w h K φb (caseK [x,y]) (sigK [c,d,f]) false :=
 run_no E (ps:=[([x],c),([y],d),([0],f)]) (cons_mem ⟨one_lot hx,hc⟩ (cons_mem ⟨one_lot hy,hd⟩ (one_mem ⟨zero_lot,hf⟩))) (k:=2) (l:=3) (stepT (pcOf [x] c) (pcOf [y] d) (pcOf [0] f)).2.2.2 (runNos _).2.2 (by kernel_rfl) (by kernel_rfl)
end
end
section
noncomputable def namesT (p na:Nat):List DV:=(List.range na).map fun i=>.opq (10 * p+(1+i))
noncomputable def prodT {α:Type} (ls:List (List α)):List (List α):=lrec [[]] (fun l _ q=>l.flatMap fun x=>q.map (x::·)) ls
noncomputable def conLeft (nas:List Nat):Con:=conL [(k_left_cases,12,pureE (tab1 ((List.range nas.length).map fun p=>(.opq (10 * p+0),.lst (namesT p (nas.getD p 0))))))]
noncomputable def leftOut (nas:List Nat):DV:=.lst ((prodT ((List.range nas.length).map fun p=>namesT p (nas.getD p 0))).map tuD)
noncomputable def oneD (k:Nat):DV:=tuD ((List.range k).map fun p=>.opq (10 * p+0))
noncomputable def leftRun (e:OpqE) (nas:List Nat):Prop:=@runF e (cfg base1 (conLeft nas)) 100 k_left_cases 18 [.dat (oneD nas.length)]=some (.dat (leftOut nas))
noncomputable def nasL:List (List Nat):=[[1],[2],[1,1],[1,2],[2,1],[2,2],[1,1,1],[1,2,1],[2,1,1],[2,2,1]]
noncomputable def SigLen (cs:List (List Nat)):Prop:=(cs.map List.length)∈nasL
theorem lefts (e:OpqE):∀ nas∈nasL,leftRun e nas:=cons_mem (by unfold leftRun;kernel_rfl) (cons_mem (by unfold leftRun;kernel_rfl) (cons_mem (by unfold leftRun;kernel_rfl) (cons_mem (by unfold leftRun;kernel_rfl) (cons_mem (by unfold leftRun;kernel_rfl) (cons_mem (by unfold leftRun;kernel_rfl)
 (cons_mem (by unfold leftRun;kernel_rfl) (cons_mem (by unfold leftRun;kernel_rfl) (cons_mem (by unfold leftRun;kernel_rfl) (one_mem (by unfold leftRun;kernel_rfl))))))))))
noncomputable def Lots (cs:List (List Nat)):Prop:=∀ c∈cs,c∈lotL
noncomputable def zipB {α β:Type} (f:α→β→Bool) (l:List α):List β→Bool:=lrec (fun r=>r.isEmpty) (fun a _ q r=>List.rec false (fun b r _=>f a b&&q r) r) l
noncomputable def caseOk:List Nat→List (List Nat)→Bool:=zipB nbel
noncomputable def belL (a c:List Nat):Bool:=a.all fun x=>c.any fun y=>leN x y
noncomputable def undS:List (List Nat)→List (List Nat)→Bool:=zipB belL
theorem lot_ne {l:List Nat} (h:l∈lotL):l≠[]:=by rcases lot_cases h with ⟨y,rfl⟩ | ⟨y,z,rfl⟩ <;> exact List.cons_ne_nil _ _
section
variable {α β:Type}
theorem prod_ne {ls:List (List α)} (h:∀ l∈ls,l≠[]):prodT ls≠[]:=by
 induction ls with
 | nil=>exact List.cons_ne_nil _ _
 | cons l ls ih =>
  obtain ⟨x,r,e⟩:=List.exists_cons_of_ne_nil (h l (List.mem_cons_self ..))
  obtain ⟨y,s,e'⟩:=List.exists_cons_of_ne_nil (ih fun l z=>h l (List.mem_cons_of_mem _ z))
  show (l.flatMap fun x=>(prodT ls).map (x::·))≠[]
  rw [e,e'];exact List.cons_ne_nil _ _
theorem all_and (l:List α) (p:α→Bool) (b:Bool) (h:l≠[]):l.all (fun x=>p x&&b)=(l.all p&&b):=by
 induction l with
 | nil=>exact absurd rfl h
 | cons x r ih =>
  rw [List.all_cons,List.all_cons]
  cases r with
  | nil=>rw [List.all_nil,List.all_nil,Bool.and_true,Bool.and_true]
  | cons y r =>
   rw [ih (List.cons_ne_nil _ _)]
   cases p x <;> cases b <;> simp
theorem prod_all (f:α→β→Bool) {cs:List (List α)}:∀ {ds:List β},(∀ c∈cs,c≠[])→(prodT cs).all (fun xs=>zipB f xs ds)=zipB (fun c d=>c.all (f · d)) cs ds:=by
 induction cs with
 | nil=>exact fun {ds} _=>Bool.and_true _
 | cons c cs ih =>
  intro ds h
  have hc:=h c (List.mem_cons_self ..)
  have hp:=prod_ne fun l z=>h l (List.mem_cons_of_mem _ z)
  show (c.flatMap fun x=>(prodT cs).map (x::·)).all _=_
  rw [List.all_flatMap]
  cases ds with
  | nil =>
   obtain ⟨x,r,e⟩:=List.exists_cons_of_ne_nil hc
   obtain ⟨y,s,e'⟩:=List.exists_cons_of_ne_nil hp
   rw [e,e'];rfl
  | cons d ds =>
   have e1:∀ x,((prodT cs).map (x::·)).all (fun xs=>zipB f xs (d::ds))=(f x d&&zipB (fun c d=>c.all (f · d)) cs ds):=fun x=>by
    rw [List.all_map,← ih fun l z=>h l (List.mem_cons_of_mem _ z)]
    show ((prodT cs).all fun xs=>f x d&&zipB f xs ds)=_
    rw [show (fun xs=>f x d&&zipB f xs ds)=fun xs=>zipB f xs ds&&f x d from funext fun xs=>Bool.and_comm ..,all_and _ _ _ hp,Bool.and_comm]
   rw [show (fun x=>((prodT cs).map (x::·)).all (fun xs=>zipB f xs (d::ds)))=fun x=>(f x d&&zipB (fun c d=>c.all (f · d)) cs ds) from funext e1,all_and _ _ _ hc]
   rfl
theorem zipB_congr {f g:α→β→Bool} {cs:List α}:∀ {ds:List β},(∀ c∈cs,∀ d∈ds,f c d=g c d)→zipB f cs ds=zipB g cs ds:=by
 induction cs with
 | nil=>exact fun _=>rfl
 | cons c cs ih =>
  intro ds h
  cases ds with
  | nil=>rfl
  | cons d ds=>exact cg2 (f:=and) (h c (List.mem_cons_self ..) d (List.mem_cons_self ..)) (ih fun c a d b=>h c (List.mem_cons_of_mem _ a) d (List.mem_cons_of_mem _ b))
theorem prod_map (f:α→β) (ls:List (List α)):(prodT ls).map (List.map f)=prodT (ls.map (List.map f)):=by
 induction ls with
 | nil=>rfl
 | cons l ls ih =>
  show (l.flatMap fun x=>(prodT ls).map (x::·)).map (List.map f)=(l.map f).flatMap fun y=>(prodT (ls.map (List.map f))).map (y::·)
  rw [← ih,List.map_flatMap,List.flatMap_map]
  refine congrArg (fun g=>l.flatMap g) (funext fun x=>?_)
  rw [List.map_map,List.map_map];rfl
theorem prod_mem {ls:List (List α)}:∀ {xs:List α},xs∈prodT ls→xs.length=ls.length∧∀ x∈xs,∃ l∈ls,x∈l:=by
 induction ls with
 | nil=>exact fun h=>by rw [List.mem_singleton.mp h];exact ⟨rfl,nofun⟩
 | cons l r ih =>
  intro xs h
  obtain ⟨x,hx,h⟩:=List.mem_flatMap.mp (show xs∈l.flatMap fun x=>(prodT r).map (x::·) from h)
  obtain ⟨ys,hy,rfl⟩:=List.mem_map.mp h
  obtain ⟨i1,i2⟩:=ih hy
  exact ⟨congrArg Nat.succ i1,cons_mem ⟨l,List.mem_cons_self ..,hx⟩ fun z hz=>let ⟨m,a,b⟩:=i2 z hz;⟨m,List.mem_cons_of_mem _ a,b⟩⟩
theorem prod_len (ls:List (List α)):(prodT ls).length=(ls.map List.length).foldr (· * ·) 1:=by
 induction ls with
 | nil=>rfl
 | cons l ls ih =>
  show (l.flatMap fun x=>(prodT ls).map (x::·)).length=l.length * _
  rw [← ih]
  induction l with
  | nil=>rw [List.length_nil,Nat.zero_mul];rfl
  | cons x l ih2=>rw [List.flatMap_cons,List.length_append,ih2,List.length_map,List.length_cons,Nat.succ_mul,Nat.add_comm]
end
theorem sz_all:nasL.all (fun nas=>memN [1,2,4] (nas.foldr (· * ·) 1))=true:=by decide
theorem allBits_all (l:List Bool):allBits l=l.all id:=by
 induction l with
 | nil=>rfl
 | cons b r ih=>exact congrArg (and b) ih
theorem nbel_eq:(List.range 10).all (fun x=>lotL.all fun c=>nbel x c==c.any fun y=>leN x y)=true:=by decide +kernel
theorem nbel' {x:Nat} {c:List Nat} (hx:x < 10) (hc:c∈lotL):nbel x c=c.any fun y=>leN x y :=
 beq_iff_eq.mp (List.all_eq_true.mp (List.all_eq_true.mp nbel_eq x (List.mem_range.mpr hx)) c hc)
theorem leN_refl:(List.range 10).all (fun x=>leN x x)=true:=by decide +kernel
theorem belL_refl {a:List Nat} (ha:a∈lotL):belL a a=true :=
 List.all_eq_true.mpr fun x hx=>List.any_eq_true.mpr ⟨x,hx,List.all_eq_true.mp leN_refl x (List.mem_range.mpr (lot_names ha x hx))⟩
theorem nbel_L {a c:List Nat} (ha:a∈lotL) (hc:c∈lotL):(a.all fun x=>nbel x c)=belL a c:=by
 unfold belL
 refine Bool.eq_iff_iff.mpr ⟨fun h=>List.all_eq_true.mpr fun x hx=>?_,fun h=>List.all_eq_true.mpr fun x hx=>?_⟩
 ·rw [← nbel' (lot_names ha x hx) hc];exact List.all_eq_true.mp h x hx
 ·rw [nbel' (lot_names ha x hx) hc];exact List.all_eq_true.mp h x hx
theorem undS_refl {cs:List (List Nat)} (hc:Lots cs):undS cs cs=true:=by
 induction cs with
 | nil=>rfl
 | cons a r ih=>exact (Bool.and_eq_true ..).mpr ⟨belL_refl (hc a (List.mem_cons_self ..)),ih fun c q=>hc c (List.mem_cons_of_mem _ q)⟩
theorem kd_deq {a b:List Nat} (ha:a∈lotL) (hb:b∈lotL):deq (kd a) (kd b)=lqb a b:=(List.cons.inj (beq_iff_eq.mp (List.all_eq_true.mp (List.all_eq_true.mp kd_eq a ha) b hb))).1
theorem deqL_sig {cs:List (List Nat)}:∀ {ds:List (List Nat)},Lots cs→Lots ds→PyData.eqvAll (pyL (cs.map kd)) (pyL (ds.map kd))=true→cs=ds:=by
 induction cs with
 | nil =>
  exact fun {ds} _ _ h=>by
   cases ds with
   | nil=>rfl
   | cons=>exact nft h
 | cons a l ih =>
  intro ds h1 h2 h
  cases ds with
  | nil=>exact nft h
  | cons b r =>
   refine and_e (show (deq (kd a) (kd b)&&PyData.eqvAll (pyL (l.map kd)) (pyL (r.map kd)))=true from h) fun q1 q2=>?_
   rw [kd_deq (h1 a (List.mem_cons_self ..)) (h2 b (List.mem_cons_self ..))] at q1
   exact cg2 (f:=List.cons) (lb_iff.mp q1) (ih (fun c q=>h1 c (List.mem_cons_of_mem _ q)) (fun c q=>h2 c (List.mem_cons_of_mem _ q)) q2)
theorem deq_sig {cs ds:List (List Nat)} (hc:Lots cs) (hd:Lots ds) (h:deq (sigK cs) (sigK ds)=true):cs=ds:=by
 refine deqL_sig hc hd ?_
 replace h:(PyData.eqv (.str (toS tupW)) (.str (toS tupW))&&(PyData.eqvAll (pyL (cs.map kd)) (pyL (ds.map kd))&&(PyData.eqv .none .none&&true)))=true:=h
 exact and_e h fun _ h=>and_e h fun h _=>h
theorem tup_dep (f:List Nat→DV) (h:∀ a∈lotL,depD (f a)≤4) {l:List (List Nat)} (hl:Lots l):depL (l.map f)≤4:=by
 induction l with
 | nil=>exact Nat.zero_le _
 | cons a r ih=>exact Nat.max_le.mpr ⟨h a (hl a (List.mem_cons_self ..)),ih fun c hc=>hl c (List.mem_cons_of_mem _ hc)⟩
theorem tu_tk {l:List DV} (h:depL l≤4):Tk (tuD l):=by
 refine ⟨rfl,?_⟩
 show Nat.max 0 (Nat.max (depL l+1) (Nat.max 0 0))+1≤20
 exact Nat.succ_le_succ (Nat.max_le.mpr ⟨Nat.zero_le _,Nat.max_le.mpr ⟨Nat.le_trans (Nat.succ_le_succ h) (by decide),by decide⟩⟩)
theorem sig_tk {cs:List (List Nat)} (h:Lots cs):Tk (sigK cs):=tu_tk (tup_dep kd (fun a ha=>and_e (List.all_eq_true.mp kd_tks a ha) fun _ y=>Nat.le_of_ble_eq_true y) h)
theorem nk_dep {l:List Nat}:depL (l.map nk)≤4:=by
 induction l with
 | nil=>exact Nat.zero_le _
 | cons a r ih=>exact Nat.max_le.mpr ⟨Nat.le_of_ble_eq_true rfl,ih⟩
noncomputable def okL:List (Nat×Nat):=[(1,1),(2,2),(1,2),(2,1),(3,2),(2,3)]
noncomputable abbrev okLen (k l:Nat):Prop:=(k,l)∈okL
theorem ok_e {P:Nat→Nat→Prop} {k l:Nat} (h:okLen k l) (h1:P 1 1) (h2:P 2 2) (h3:P 1 2) (h4:P 2 1) (h5:P 3 2) (h6:P 2 3):P k l:=cons_mem (p:=fun q:Nat×Nat=>P q.1 q.2) h1 (cons_mem h2 (cons_mem h3 (cons_mem h4 (cons_mem h5 (one_mem h6))))) (k,l) h
theorem okLen_symm {k l:Nat} (h:okLen k l):okLen l k:=ok_e (P:=fun k l=>okLen l k) h (by decide) (by decide) (by decide) (by decide) (by decide) (by decide)
section
variable {w:World} {h:Heap} {K:Frag} {φb:Nat→Option Addr}
theorem leftK (E:Wd h K) {l:List Nat} (hl:l∈lotL) (H:Hp):CF w h K φb k_left_cases 12 [.dat (kd l)] H (.dat (.lst (l.map nk))) :=
 CG.mono (closed_call E (List.map_inj_left.mp cases_run l hl) rfl rfl H) (Nat.le_of_ble_eq_true rfl)
theorem namesT_put {ps:List (List Nat×List Nat)} {p:Nat} {q:List Nat×List Nat} (e:ps[p]?=some q) (hq:q.1∈lotL):subDL (tokD ps) (namesT p q.1.length)=q.1.map nk:=by
 unfold namesT
 rw [subDL_map]
 have t:∀ {i},i < 2→subD (tokD ps) (.opq (10 * p+(1+i)))=nk (atN q.1 i):=fun {i} h=>(tok_at e (Nat.ble_eq_true_of_le (show 1+i+1≤10 by omega))).trans (by
  cases i with
  | zero=>rfl
  | succ i=>cases i with
   | zero=>rfl
   | succ i=>omega)
 rcases lot_cases hq with ⟨y,z⟩ | ⟨y,y',z⟩
 ·rw [z]
  exact cg2 (f:=List.cons) ((t (i:=0) (by decide)).trans (by rw [z];rfl)) rfl
 ·rw [z]
  exact cg2 (f:=List.cons) ((t (i:=0) (by decide)).trans (by rw [z];rfl)) (cg2 (f:=List.cons) ((t (i:=1) (by decide)).trans (by rw [z];rfl)) rfl)
theorem range_map {α β:Type} {l:List α} {f:Nat→β} {g:α→β} (h:∀ {p q},l[p]?=some q→f p=g q):(List.range l.length).map f=l.map g:=by
 refine List.ext_getElem (by rw [List.length_map,List.length_map,List.length_range]) fun i h1 h2=>?_
 rw [List.length_map] at h2
 rw [List.getElem_map,List.getElem_map,List.getElem_range]
 exact h (List.getElem?_eq_getElem h2)
theorem left_sig (E:Wd h K) {cs:List (List Nat)} (hc:Lots cs) (hl:SigLen cs) (H:Hp):CF w h K φb k_left_cases 20 [.dat (sigK cs)] H (.dat (.lst ((prodT cs).map caseK))):=by
 have hp:InLots (cs.map fun c=>(c,[0])):=fun p q=>by
  obtain ⟨c,h1,rfl⟩:=List.mem_map.mp q
  exact ⟨hc c h1,zero_lot⟩
 have at_:∀ {p c},cs[p]?=some c→(cs.map fun c=>(c,[0]))[p]?=some (c,[0]):=fun e=>by rw [List.getElem?_map,e];rfl
 have nm:∀ {p c},cs[p]?=some c→subDL (tokD (cs.map fun c=>(c,[0]))) (namesT p ((cs.map List.length).getD p 0))=c.map nk:=fun {p c} e=>by
  rw [show (cs.map List.length).getD p 0=c.length by rw [List.getD_eq_getElem?_getD,List.getElem?_map,e];rfl]
  exact namesT_put (at_ e) (hc c (List.mem_of_getElem? e))
 have ok:ConOK w h K φb (tokI _ hp) (conLeft (cs.map List.length)):=conL_ok (one_mem (tab1_ok rfl fun x hx H=>by
  obtain ⟨p,hpr,rfl⟩:=List.mem_map.mp hx
  have hlt:=List.mem_range.mp hpr
  rw [List.length_map] at hlt
  have e:=List.getElem?_eq_getElem hlt
  have t0:subD (tokD (cs.map fun c=>(c,[0]))) (.opq (10 * p+0))=kd cs[p]:=tok_at (at_ e) rfl
  show CF w h K φb k_left_cases 12 [.dat (subD (tokD (cs.map fun c=>(c,[0]))) (.opq (10 * p+0)))] H (.dat (.lst (subDL (tokD (cs.map fun c=>(c,[0]))) (namesT p ((cs.map List.length).getD p 0)))))
  rw [t0,nm e]
  exact leftK E (hc _ (List.getElem_mem hlt)) H))
 have r:CF w h K φb k_left_cases 20 [.dat (subD (tokD (cs.map fun c=>(c,[0]))) (oneD (cs.map List.length).length))] H (.dat (subD (tokD (cs.map fun c=>(c,[0]))) (leftOut (cs.map List.length)))):=CG.mono (layer_pure (I:=tokI _ hp) E ok (lefts _ _ hl) rfl rfl H) (Nat.le_of_ble_eq_true rfl)
 have ea:subD (tokD (cs.map fun c=>(c,[0]))) (oneD (cs.map List.length).length)=sigK cs:=by
  show tuD (subDL _ _)=tuD (cs.map kd)
  rw [subDL_map,List.length_map]
  exact congrArg tuD (range_map fun e=>tok_at (at_ e) rfl)
 have eb:subD (tokD (cs.map fun c=>(c,[0]))) (leftOut (cs.map List.length))=.lst ((prodT cs).map caseK):=by
  show DV.lst (subDL _ _)=_
  rw [subDL_map,List.length_map]
  have e1:(fun l=>subD (tokD (cs.map fun c=>(c,[0]))) (tuD l))=tuD∘List.map (subD (tokD (cs.map fun c=>(c,[0])))):=funext fun l=>congrArg tuD (by have:=subDL_map (tokD (cs.map fun c=>(c,[0]))) id l;rwa [List.map_id] at this)
  rw [e1,← List.map_map,prod_map,List.map_map]
  have e2:((List.range cs.length).map (List.map (subD (tokD (cs.map fun c=>(c,[0]))))∘fun p=>namesT p ((cs.map List.length).getD p 0)))=cs.map (List.map nk):=range_map fun {p c} e=>by
   show List.map _ _=_
   rw [← nm e]
   have:=subDL_map (tokD (cs.map fun c=>(c,[0]))) id (namesT p ((cs.map List.length).getD p 0))
   rw [List.map_id] at this
   exact this.symm
  rw [e2,← prod_map,List.map_map];rfl
 rwa [ea,eb] at r
theorem run_case (E:Wd h K) {xs:List Nat} {ds:List (List Nat)} (hx:∀ x∈xs,x < 10) (hd:Lots ds) (hl:okLen xs.length ds.length):RunF w h K φb (caseK xs) (sigK ds) (caseOk xs ds):=by
 have i0:∀ {α:Type} {a:α} {l},a∈a::l:=List.mem_cons_self ..
 have i1:∀ {α:Type} {a b:α} {l},b∈a::b::l:=List.mem_cons_of_mem _ (List.mem_cons_self ..)
 have i2:∀ {α:Type} {a b c:α} {l},c∈a::b::c::l:=List.mem_cons_of_mem _ (List.mem_cons_of_mem _ (List.mem_cons_self ..))
 refine ok_e (P:=fun k l=>xs.length=k→ds.length=l→RunF w h K φb (caseK xs) (sigK ds) (caseOk xs ds)) hl (fun a b=>?_) (fun a b=>?_) (fun a b=>?_) (fun a b=>?_) (fun a b=>?_) (fun a b=>?_) rfl rfl
 ·obtain ⟨x,rfl⟩:=len1 a
  obtain ⟨c,rfl⟩:=len1 b
  rw [show caseOk [x] [c]=nbel x c from Bool.and_true _];exact run_one E (hx x i0) (hd c i0)
 ·obtain ⟨x,y,rfl⟩:=len2 a
  obtain ⟨c,d,rfl⟩:=len2 b
  rw [show caseOk [x,y] [c,d]=(nbel x c&&nbel y d) from congrArg (and (nbel x c)) (Bool.and_true _)];exact run_two E (hx x i0) (hd c i0) (hx y i1) (hd d i1)
 ·obtain ⟨x,rfl⟩:=len1 a
  obtain ⟨c,d,rfl⟩:=len2 b
  rw [show caseOk [x] [c,d]=false from Bool.and_false _];exact run_12 E (hx x i0) (hd c i0) (hd d i1)
 ·obtain ⟨x,y,rfl⟩:=len2 a
  obtain ⟨c,rfl⟩:=len1 b
  rw [show caseOk [x,y] [c]=false from Bool.and_false _];exact run_21 E (hx x i0) (hd c i0) (hx y i1)
 ·obtain ⟨x,y,z,rfl⟩:=len3 a
  obtain ⟨c,d,rfl⟩:=len2 b
  rw [show caseOk [x,y,z] [c,d]=false from (congrArg (and (nbel x c)) (Bool.and_false _)).trans (Bool.and_false _)];exact run_32 E (hx x i0) (hd c i0) (hx y i1) (hd d i1) (hx z i2)
 ·obtain ⟨x,y,rfl⟩:=len2 a
  obtain ⟨c,d,f,rfl⟩:=len3 b
  rw [show caseOk [x,y] [c,d,f]=false from (congrArg (and (nbel x c)) (Bool.and_false _)).trans (Bool.and_false _)];exact run_23 E (hx x i0) (hd c i0) (hx y i1) (hd d i1) (hd f i2)
theorem mem3 {n:Nat} (h:memN [1,2,4] n=true):n=1∨n=2∨n=4:=by simpa using memN_mem h
theorem sub_sig (E:Wd h K) {cs ds:List (List Nat)} (hc:Lots cs) (hd:Lots ds) (hs:SigLen cs) (hl:okLen cs.length ds.length) (H:Hp):CF w h K φb k_is_subtype 40 [.rinst 4 0,.dat (sigK cs),.dat (sigK ds)] H (.dat (.bool (undS cs ds))):=by
 have nm:∀ {xs},xs∈prodT cs→xs.length=cs.length∧∀ x∈xs,x < 10:=fun m=>let ⟨h1,h2⟩:=prod_mem m;⟨h1,fun x q=>let ⟨l,a,b⟩:=h2 x q;lot_names (hc l a) x b⟩
 have e:(deq (sigK cs) (sigK ds)||allBits ((prodT cs).map fun xs=>caseOk xs ds))=undS cs ds:=by
  have e1:allBits ((prodT cs).map fun xs=>caseOk xs ds)=undS cs ds:=by
   rw [allBits_all,List.all_map]
   exact (prod_all nbel fun c m=>lot_ne (hc c m)).trans (zipB_congr fun c a d b=>nbel_L (hc c a) (hd d b))
  rw [e1]
  cases q:deq (sigK cs) (sigK ds) with
  | false=>rfl
  | true=>rw [deq_sig hc hd q,undS_refl hd];rfl
 rw [← e]
 refine sub_gen E (cases:=(prodT cs).map caseK) (bits:=(prodT cs).map fun xs=>caseOk xs ds) (sig_tk hc) (sig_tk hd) (fun c q=>?_) (by rw [List.length_map,List.length_map]) ?_ (fun H=>left_sig E hc hs H) (fun i c b e1 e2=>?_) H
 ·obtain ⟨xs,_,rfl⟩:=List.mem_map.mp q
  exact tu_tk nk_dep
 ·rw [List.length_map,prod_len];exact mem3 (List.all_eq_true.mp sz_all _ hs)
 ·rw [List.getElem?_map] at e1 e2
  obtain ⟨xs,f1,rfl⟩:=Option.map_eq_some_iff.mp e1
  rw [f1] at e2
  rw [← Option.some.inj e2]
  obtain ⟨g1,g2⟩:=nm (List.mem_of_getElem? f1)
  exact run_case E g2 hd (by rw [g1];exact hl)
theorem sub_lot (E:Wd h K) {a c:List Nat} (ha:a∈lotL) (hc:c∈lotL) (H:Hp):CF w h K φb k_is_subtype 40 [.rinst 4 0,.dat (kd a),.dat (kd c)] H (.dat (.bool (belL a c))):=by
 have e:(deq (kd a) (kd c)||allBits (a.map fun x=>nbel x c))=belL a c:=by
  have e1:allBits (a.map fun x=>nbel x c)=belL a c:=by rw [allBits_all,List.all_map];exact nbel_L ha hc
  rw [e1,kd_deq ha hc]
  cases q:lqb a c with
  | false=>rfl
  | true=>rw [lb_iff.mp q,belL_refl hc];rfl
 rw [← e]
 refine sub_gen E (cases:=a.map nk) (bits:=a.map fun x=>nbel x c) (lot_tk ha) (lot_tk hc) (fun d q=>?_) (by rw [List.length_map,List.length_map]) ?_ (fun H=>CG.mono (leftK E ha H) (Nat.le_of_ble_eq_true rfl)) (fun i d b e1 e2=>?_) H
 ·obtain ⟨x,_,rfl⟩:=List.mem_map.mp q;exact nk_tk x
 ·rw [List.length_map];rcases lot_cases ha with ⟨y,rfl⟩ | ⟨y,z,rfl⟩
  ·exact .inl rfl
  ·exact .inr (.inl rfl)
 ·rw [List.getElem?_map] at e1 e2
  obtain ⟨x,f1,rfl⟩:=Option.map_eq_some_iff.mp e1
  rw [f1] at e2
  rw [← Option.some.inj e2]
  exact run_bare E (lot_names ha x (List.mem_of_getElem? f1)) hc
end
end
section
noncomputable def partL (a b:List Nat):List Nat:=(a.filter fun x=>b.any fun y=>leN x y)++(b.filter fun x=>!memN a x&&a.any fun y=>leN x y)
noncomputable def sameSet (l p:List Nat):Bool:=Nat.beq l.length p.length&&l.all fun x=>memN p x
noncomputable def meetL (a b:List Nat):List Nat:=lrec [] (fun l _ q=>cond (sameSet l (partL a b)) l q) lotL
noncomputable def botD:DV:=.tup [.str [98,111,116,116,111,109]]
noncomputable def meetD (a b:List Nat):DV:=cond (partL a b).isEmpty botD (kd (meetL a b))
noncomputable def look2 {α:Type} (l:List ((DV×DV)×α)) (d e:DV):Option α:=lrec none (fun p _ q=>cond (cond (dvE p.1.1 d) (dvE p.1.2 e) false) (some p.2) q) l
theorem look2_mem {α:Type} {l:List ((DV×DV)×α)} {d e:DV} {v:α} (h:look2 l d e=some v):((d,e),v)∈l:=by
 induction l with
 | nil=>exact nos h
 | cons p r ih =>
  replace h:cond (cond (dvE p.1.1 d) (dvE p.1.2 e) false) (some p.2) (look2 r d e)=some v:=h
  cases q:cond (dvE p.1.1 d) (dvE p.1.2 e) false with
  | true=>rw [q] at h;rw [← Option.some.inj h];exact cond_e q fun q p=>by rw [← dvE_eq q,← dvE_eq p];exact List.mem_cons_self ..
  | false=>rw [q] at h;exact List.mem_cons_of_mem _ (ih h)
noncomputable def tabSub (l:List ((DV×DV)×Bool)) (vs:List AV):Option AV:=ob (v3 vs) fun t=>gb (isRi t.1) (ob (dV t.2.1) fun d=>ob (dV t.2.2) fun e=>ob (look2 l d e) fun b=>some (.dat (.bool b)))
noncomputable def Hm:Hp:=[.ns [(4,.rinst 4 0),(119,.dat (.lst [])),(29,.loc 1)],.dict [],.dict []]
noncomputable def AtM (H:Hp) (n b m:Nat):Prop:=(H[n]?=some (.ns [(4,.rinst 4 0),(119,.dat (.lst [])),(29,.loc b)])∧H[b]?=some (.dict []))∧H[m]?=some (.dict [])∧b≠m
noncomputable def atMeet (H:Hp) (n m:Nat):Option Nat:=ob (nO H[n]?) fun l=>ob (v3 l) fun p=>ob (fldL 29 p.2.2) fun b=>gb (fldR 4 p.1) (gb (fldD 119 p.2.1 (.lst [])) (gb (nilD H[m]?) (gb (nilD H[b]?) (gb (!Nat.beq b m) (some b)))))
theorem atMeet_ok {H:Hp} {n b m:Nat} (h:atMeet H n m=some b):AtM H n b m :=
 ob_e h fun _ a h=>ob_e h fun _ b h=>ob_e h fun _ c h=>gb_e h fun u h=>gb_e h fun v h=>gb_e h fun w h=>gb_e h fun x h=>gb_e h fun y h=>by
  rw [← Option.some.inj h]
  exact ⟨⟨by rw [nO_eq a,v3_eq b,fldR_eq u,fldD_eq v,fldL_eq c],nilD_eq x⟩,nilD_eq w,fun q=>by rw [q,Nat.beq_refl] at y;exact nft y⟩
theorem AtM.put {D:Nat→DV} {H:Hp} {n b m:Nat} (h:AtM H n b m):AtM (H.map (putO D)) n b m:=⟨⟨map_at' h.1.1,map_at' h.1.2⟩,map_at' h.2.1,h.2.2⟩
noncomputable def meetTab (l:List ((DV×DV)×DV)) (vs:List AV) (H:Hp):Option (AV×Hp):=ob (v4 vs) fun t=>ob (instK 2 t.1) fun n=>ob (dV t.2.1) fun a=>ob (dV t.2.2.1) fun b=>ob (locV t.2.2.2) fun m=>ob (atMeet H n m) fun _=>ob (look2 l a b) fun k=>some (.mix [.dat k,.loc m],H)
noncomputable def conM (d:Nat) (s:List ((DV×DV)×Bool)) (l:List ((DV×DV)×DV)):Con:=conL [(k_is_subtype,42,pureE (tabSub s)),(k_Meeting_meet,d,meetTab l)]
section
variable {w:World} {h:Heap} {K:Frag} {φb:Nat→Option Addr} {I:Opq} {con:Con}
noncomputable def SubF (w:World) (h:Heap) (K:Frag) (φb:Nat→Option Addr) (a b:DV) (t:Bool):Prop:=∀ H,CF w h K φb k_is_subtype 42 [.rinst 4 0,.dat a,.dat b] H (.dat (.bool t))
noncomputable def MeetF (w:World) (h:Heap) (K:Frag) (φb:Nat→Option Addr) (d:Nat) (a b k:DV):Prop:=∀ (H:Hp) (n bb m:Nat),AtM H n bb m→CF w h K φb k_Meeting_meet d [.inst 2 n,.dat a,.dat b,.loc m] H (.mix [.dat k,.loc m])
theorem MeetF.mono {d d':Nat} {a b k:DV} (m:MeetF w h K φb d a b k) (hd:Nat.ble d d'=true):MeetF w h K φb d' a b k:=fun H n bb mm hs=>CG.mono (m H n bb mm hs) (Nat.le_of_ble_eq_true hd)
theorem tabSub_ok {l:List ((DV×DV)×Bool)} (hl:∀ x∈l,SubF w h K φb (subD I.D x.1.1) (subD I.D x.1.2) x.2):CeOK w h K φb I (k_is_subtype,42,pureE (tabSub l)) :=
 pure_ok rfl fun H e=>ob_e e fun t a e=>gb_e e fun b e=>ob_e e fun d c e=>ob_e e fun f g e=>ob_e e fun x el e=>by
  rw [← Option.some.inj e,v3_eq a,isRi_eq b,dV_eq c,dV_eq g]
  exact hl _ (look2_mem el) _
theorem meetTab_ok {d:Nat} {l:List ((DV×DV)×DV)} (hl:∀ x∈l,MeetF w h K φb d (subD I.D x.1.1) (subD I.D x.1.2) (subD I.D x.2)):CeOK w h K φb I (k_Meeting_meet,d,meetTab l) :=
 ⟨Nat.le_of_ble_eq_true rfl,fun {vs H v H'} e2=>ob_e e2 fun t e1 e=>ob_e e fun n e3 e=>ob_e e fun a e4 e=>ob_e e fun b e5 e=>ob_e e fun m e6 e=>ob_e e fun x e7 e=>ob_e e fun k el e=>pr_e e fun z1 z2=>by
  rw [← z1,← z2,v4_eq e1,instK_eq e3,dV_eq e4,dV_eq e5,locV_eq e6]
  exact hl _ (look2_mem el) _ n x m (atMeet_ok e7).put⟩
theorem conM_ok {d:Nat} {s:List ((DV×DV)×Bool)} {l:List ((DV×DV)×DV)} (hs:∀ x∈s,SubF w h K φb x.1.1 x.1.2 x.2) (hl:∀ x∈l,MeetF w h K φb d x.1.1 x.1.2 x.2):ConOK w h K φb opq0 (conM d s l) :=
 conL_ok (cons_mem (tabSub_ok fun x hx=>by rw [sub_id,sub_id];exact hs x hx) (one_mem (meetTab_ok fun x hx=>by rw [sub_id,sub_id,sub_id];exact hl x hx)))
theorem meet_run (E:Wd h K) (c:ConOK w h K φb I con) {d:Nat} {a b k:DV} (e:resF 3 (@runH I.toOpqE (cfg base1 con) 200 k_Meeting_meet d [.inst 2 0,.dat a,.dat b,.loc 2] Hm)=some (.mix [.dat k,.loc 2],Hm)):MeetF w h K φb d (subD I.D a) (subD I.D b) (subD I.D k):=fun H n bb m hs =>
 layer_give (vs:=[.inst 2 0,.dat a,.dat b,.loc 2]) (v:=.mix [.dat k,.loc 2]) (H0:=Hm) (ix:=[n,bb,m]) E c e rfl rfl rfl rfl rfl (nd3 (ne3 tagO hs.1.1 hs.1.2 rfl) (ne3 tagO hs.1.1 hs.2.1 rfl) hs.2.2) (part3 hs.1.1 hs.1.2 hs.2.1)
end
noncomputable def meetRun (c:Con) (d:Nat) (a b:List Nat):Option (AV×Hp):=resF 3 (@runH opq0.toOpqE (cfg base1 c) 200 k_Meeting_meet d [.inst 2 0,.dat (kd a),.dat (kd b),.loc 2] Hm)
noncomputable def meetW (a b:List Nat):Option (AV×Hp):=some (.mix [.dat (meetD a b),.loc 2],Hm)
noncomputable def subPairs (a b:List Nat):List ((DV×DV)×Bool):=let ls:=[a,b]++(a.map fun x=>[x])++(b.map fun x=>[x])
 ls.flatMap fun x=>ls.map fun y=>((kd x,kd y),belL x y)
noncomputable def sub2 (a b:List Nat):List ((DV×DV)×Bool):=[((kd a,kd b),belL a b),((kd b,kd a),belL b a)]
noncomputable def tabNU (x:Nat) (b:List Nat):List ((DV×DV)×DV):=b.map fun y=>((kd [y],kd [x]),meetD [y] [x])
noncomputable def tabU (a b:List Nat):List ((DV×DV)×DV):=a.map fun x=>((kd [x],kd b),meetD [x] b)
noncomputable def uniL:List (List Nat):=lotL.drop 10
noncomputable abbrev LL:=List Nat×List Nat
noncomputable def pairL (l r:List (List Nat)):List LL:=l.flatMap fun a=>r.map fun b=>(a,b)
noncomputable def oneL:List (List Nat):=lotL.take 10
theorem meet_nn_run:(pairL oneL oneL).map (fun p:LL=>meetRun (conM 0 (subPairs p.1 p.2) []) 50 p.1 p.2)=(pairL oneL oneL).map fun p=>meetW p.1 p.2:=by kernel_rfl
theorem meet_nu_run:(pairL oneL uniL).map (fun p:LL=>meetRun (conM 50 (sub2 p.1 p.2) (tabNU (atN p.1 0) p.2)) 60 p.1 p.2)=(pairL oneL uniL).map fun p=>meetW p.1 p.2:=by kernel_rfl
theorem meet_un_run:(pairL uniL oneL).map (fun p:LL=>meetRun (conM 60 (sub2 p.1 p.2) (tabU p.1 p.2)) 70 p.1 p.2)=(pairL uniL oneL).map fun p=>meetW p.1 p.2:=by kernel_rfl
noncomputable def uuF (p:LL):Option (AV×Hp):=meetRun (conM 60 (sub2 p.1 p.2) (tabU p.1 p.2)) 70 p.1 p.2
noncomputable def uuW (p:LL):Option (AV×Hp):=meetW p.1 p.2
noncomputable def uuP (k:Nat):List LL:=((pairL uniL uniL).drop (73 * k)).take 73
theorem uu0:(uuP 0).map uuF=(uuP 0).map uuW:=by kernel_rfl
theorem uu1:(uuP 1).map uuF=(uuP 1).map uuW:=by kernel_rfl
theorem uu2:(uuP 2).map uuF=(uuP 2).map uuW:=by kernel_rfl
theorem uu3:(uuP 3).map uuF=(uuP 3).map uuW:=by kernel_rfl
theorem uu4:(uuP 4).map uuF=(uuP 4).map uuW:=by kernel_rfl
theorem uu_all:pairL uniL uniL=uuP 0++(uuP 1++(uuP 2++(uuP 3++uuP 4))):=by decide +kernel
end
section
theorem pair_mem {l r:List (List Nat)} {a b:List Nat} (ha:a∈l) (hb:b∈r):(a,b)∈pairL l r:=List.mem_flatMap.mpr ⟨a,ha,List.mem_map_of_mem hb⟩
theorem uu_at {a b:List Nat} (ha:a∈uniL) (hb:b∈uniL):uuF (a,b)=uuW (a,b):=by
 have hm:=pair_mem ha hb
 rw [uu_all] at hm
 exact (List.mem_append.mp hm).elim (List.map_inj_left.mp uu0 _) fun hm=>(List.mem_append.mp hm).elim (List.map_inj_left.mp uu1 _) fun hm=>(List.mem_append.mp hm).elim (List.map_inj_left.mp uu2 _) fun hm=>(List.mem_append.mp hm).elim (List.map_inj_left.mp uu3 _) (List.map_inj_left.mp uu4 _)
theorem map_eq {α β:Type} {f g:α→β} {l:List α} (h:l.map f=l.map g) {x:α} (m:x∈l):f x=g x:=List.map_inj_left.mp h x m
theorem nn_at {a b:List Nat} (ha:a∈oneL) (hb:b∈oneL):meetRun (conM 0 (subPairs a b) []) 50 a b=meetW a b:=by
 have z:=map_eq meet_nn_run (pair_mem ha hb)
 dsimp only at z
 exact z
theorem nu_at {a b:List Nat} (ha:a∈oneL) (hb:b∈uniL):meetRun (conM 50 (sub2 a b) (tabNU (atN a 0) b)) 60 a b=meetW a b:=by
 have z:=map_eq meet_nu_run (pair_mem ha hb)
 dsimp only at z
 exact z
theorem un_at {a b:List Nat} (ha:a∈uniL) (hb:b∈oneL):meetRun (conM 60 (sub2 a b) (tabU a b)) 70 a b=meetW a b:=by
 have z:=map_eq meet_un_run (pair_mem ha hb)
 dsimp only at z
 exact z
theorem uv_at {a b:List Nat} (ha:a∈uniL) (hb:b∈uniL):meetRun (conM 60 (sub2 a b) (tabU a b)) 70 a b=meetW a b:=by
 have z:=uu_at ha hb
 unfold uuF uuW at z
 dsimp only at z
 exact z
theorem one_shape:oneL=(List.range 10).map fun x=>[x]:=by decide +kernel
theorem lot_two {l:List Nat} (h:l∈lotL):l∈oneL∨l∈uniL:=List.mem_append.mp ((List.take_append_drop 10 lotL).symm ▸ h)
theorem one_in {x:Nat} (h:x < 10):[x]∈oneL:=one_shape ▸ List.mem_map.mpr ⟨x,List.mem_range.mpr h,rfl⟩
theorem one_e {l:List Nat} (h:l∈oneL):∃ x,l=[x]∧x < 10:=by
 rw [one_shape] at h
 obtain ⟨x,h,e⟩:=List.mem_map.mp h
 exact ⟨x,e.symm,List.mem_range.mp h⟩
theorem uni_lot {l:List Nat} (h:l∈uniL):l∈lotL:=List.mem_of_mem_drop h
theorem one_lot' {l:List Nat} (h:l∈oneL):l∈lotL:=List.mem_of_mem_take h
section
variable {w:World} {h:Heap} {K:Frag} {φb:Nat→Option Addr} {a b:List Nat}
theorem subF_lot (E:Wd h K) (ha:a∈lotL) (hb:b∈lotL):SubF w h K φb (kd a) (kd b) (belL a b):=fun H=>CG.mono (sub_lot E ha hb H) (Nat.le_of_ble_eq_true rfl)
theorem sub2_ok (E:Wd h K) (ha:a∈lotL) (hb:b∈lotL):∀ x∈sub2 a b,SubF w h K φb x.1.1 x.1.2 x.2:=cons_mem (subF_lot E ha hb) (one_mem (subF_lot E hb ha))
theorem subPairs_ok (E:Wd h K) (ha:a∈lotL) (hb:b∈lotL):∀ x∈subPairs a b,SubF w h K φb x.1.1 x.1.2 x.2:=fun x hx=>by
 have ones:∀ {c},c∈lotL→∀ l∈c.map fun x=>[x],l∈lotL:=fun hc l hl=>by
  obtain ⟨x,hx,rfl⟩:=List.mem_map.mp hl
  exact one_lot (lot_names hc x hx)
 have lsm:∀ l∈[a,b]++(a.map fun x=>[x])++(b.map fun x=>[x]),l∈lotL:=fun l hl=>(List.mem_append.mp hl).elim (fun hl=>(List.mem_append.mp hl).elim (cons_mem ha (one_mem hb) l) (ones ha l)) (ones hb l)
 obtain ⟨l1,h1,hx⟩:=List.mem_flatMap.mp hx
 obtain ⟨l2,h2,rfl⟩:=List.mem_map.mp hx
 exact subF_lot E (lsm _ h1) (lsm _ h2)
theorem meet_of (E:Wd h K) {c:Con} (ok:ConOK w h K φb opq0 c) {d:Nat} (e:meetRun c d a b=meetW a b):MeetF w h K φb d (kd a) (kd b) (meetD a b):=by
 have r:=meet_run (I:=opq0) (w:=w) (φb:=φb) E ok (d:=d) (a:=kd a) (b:=kd b) (k:=meetD a b) e
 rwa [sub_id,sub_id,sub_id] at r
theorem meet_nn (E:Wd h K) (ha:a∈oneL) (hb:b∈oneL):MeetF w h K φb 50 (kd a) (kd b) (meetD a b) :=
 meet_of E (conM_ok (subPairs_ok E (one_lot' ha) (one_lot' hb)) (fun _ h=>absurd h List.not_mem_nil)) (nn_at ha hb)
theorem meet_nl (E:Wd h K) (ha:a∈oneL) (hb:b∈lotL):MeetF w h K φb 60 (kd a) (kd b) (meetD a b):=by
 rcases lot_two hb with q | q
 ·exact MeetF.mono (meet_nn E ha q) rfl
 ·refine meet_of E (conM_ok (sub2_ok E (one_lot' ha) hb) fun x hx=>?_) (nu_at ha q)
  obtain ⟨y,hy,rfl⟩:=List.mem_map.mp hx
  obtain ⟨z,rfl,hz⟩:=one_e ha
  exact meet_nn E (one_in (lot_names hb y hy)) (one_in hz)
theorem meet_lot (E:Wd h K) (ha:a∈lotL) (hb:b∈lotL):MeetF w h K φb 70 (kd a) (kd b) (meetD a b):=by
 rcases lot_two ha with qa | qa
 ·exact MeetF.mono (meet_nl E qa hb) rfl
 have ok:ConOK w h K φb opq0 (conM 60 (sub2 a b) (tabU a b)):=conM_ok (sub2_ok E ha hb) fun q hq=>by
  obtain ⟨x,hx,rfl⟩:=List.mem_map.mp hq
  exact meet_nl E (one_in (lot_names ha x hx)) hb
 rcases lot_two hb with qb | qb
 ·exact meet_of E ok (un_at qa qb)
 ·exact meet_of E ok (uv_at qa qb)
end
end
structure MtC where
 eac:Bool
 bot:Bool
@[reducible] noncomputable def mtE (cs:List MtC):OpqE:=⟨fun i j=>ob cs[i / 10]? fun c=>gb (Nat.beq (i / 10) (j / 10)&&(Nat.beq (i % 10) 0&&Nat.beq (j % 10) 3)) (some c.eac)⟩
noncomputable def mPart (p:Nat) (c:MtC):DV:=cond c.bot botD (.opq (10 * p+6))
noncomputable def mOut (k:Nat):DV:=tuD ((List.range k).map fun p=>.opq (10 * p+6))
noncomputable def mParts (cs:List MtC):List ((DV×DV)×DV):=(List.range cs.length).map fun p=>((.opq (10 * p+0),.opq (10 * p+3)),mPart p (cs.getD p ⟨false,true⟩))
noncomputable def mEmpty (k:Nat):List (DV×DV):=(botD,.bool true)::(List.range k).map fun p=>(.opq (10 * p+6),.bool false)
noncomputable def conMT (cs:List MtC) (k l:Nat) (s1 s2:Bool):Con:=conL [(k_is_subtype,42,pureE (tabSub [((oneD k,otherD l),s1),((otherD l,oneD k),s2)])),(k_free_vars,16,pureE (tab1 [(oneD k,.lst []),(otherD l,.lst [])])),(k_is_empty,14,pureE (tab1 (mEmpty k))),(k_Meeting_meet,70,meetTab (mParts cs))]
noncomputable def pick (e s1 s2:Bool) (x y z:DV):DV:=cond e x (cond s1 x (cond s2 y z))
noncomputable def mtWant (cs:List MtC) (k l:Nat) (s1 s2:Bool):DV:=pick (Nat.beq k l&&cs.all (·.eac)) s1 s2 (oneD k) (otherD l) (cond (Nat.beq k l) (cond (cs.any (·.bot)) botD (mOut k)) botD)
noncomputable def mtOK (cs:List MtC) (k l:Nat) (s1 s2:Bool):Prop:=resF 3 (@runH (mtE cs) (cfg base1 (conMT cs k l s1 s2)) 200 k_Meeting_meet 80 [.inst 2 0,.dat (oneD k),.dat (otherD l),.loc 2] Hm)=some (.mix [.dat (mtWant cs k l s1 s2),.loc 2],Hm)
theorem mt1:∀ c s1 s2,mtOK [c] 1 1 s1 s2:=by
 intro ⟨e,b⟩ s1 s2;cases e <;> cases b <;> cases s1 <;> cases s2 <;> (unfold mtOK;kernel_rfl)
theorem mt2:∀ c d s1 s2,(mtOK [c,d] 2 2 s1 s2∧mtOK [c,d] 1 2 s1 s2)∧mtOK [c,d] 2 1 s1 s2:=by
 intro ⟨e,b⟩ ⟨f,d⟩ s1 s2
 cases e <;> cases b <;> cases f <;> cases d <;> cases s1 <;> cases s2 <;> exact ⟨⟨by unfold mtOK;kernel_rfl,by unfold mtOK;kernel_rfl⟩,by unfold mtOK;kernel_rfl⟩
theorem mt3:∀ c d f s1 s2,mtOK [c,d,f] 3 2 s1 s2∧mtOK [c,d,f] 2 3 s1 s2:=by
 intro ⟨e,b⟩ ⟨f,d⟩ t s1 s2
 cases e <;> cases f <;> cases s1 <;> cases s2 <;> exact ⟨by unfold mtOK;kernel_rfl,by unfold mtOK;kernel_rfl⟩
noncomputable def fv (f:Nat) (ps:List DV):Prop:=@runF opq0.toOpqE (cfg base1 noC) 150 f 13 [.dat (tuD ps)]=some (.dat (.lst []))
noncomputable def pN (s:List Nat):DV:=.tup [.str [110,97,109,101],.str s,.tup []]
noncomputable def pU (s t:List Nat):DV:=.tup [.str [117,110,105,111,110],.tup [pN s,pN t]]
noncomputable def fvs (ps:List DV):Prop:=fv k_free_vars ps∧fv k_names_within ps
theorem fv1 (s t:List Nat):fvs [pN s]∧fvs [pU s t]:=⟨⟨by unfold fv;kernel_rfl,by unfold fv;kernel_rfl⟩,by unfold fv;kernel_rfl,by unfold fv;kernel_rfl⟩
theorem fv2 (s t u v:List Nat):(fvs [pN s,pN u]∧fvs [pN s,pU u v])∧fvs [pU s t,pN u]∧fvs [pU s t,pU u v] :=
 ⟨⟨⟨by unfold fv;kernel_rfl,by unfold fv;kernel_rfl⟩,by unfold fv;kernel_rfl,by unfold fv;kernel_rfl⟩,⟨by unfold fv;kernel_rfl,by unfold fv;kernel_rfl⟩,by unfold fv;kernel_rfl,by unfold fv;kernel_rfl⟩
theorem fv3 (s t u v x:List Nat):(fvs [pN s,pN u,pN x]∧fvs [pN s,pU u v,pN x])∧fvs [pU s t,pN u,pN x]∧fvs [pU s t,pU u v,pN x] :=
 ⟨⟨⟨by unfold fv;kernel_rfl,by unfold fv;kernel_rfl⟩,by unfold fv;kernel_rfl,by unfold fv;kernel_rfl⟩,⟨by unfold fv;kernel_rfl,by unfold fv;kernel_rfl⟩,by unfold fv;kernel_rfl,by unfold fv;kernel_rfl⟩
theorem emptyB_run:@runF opq0.toOpqE (cfg base1 noC) 60 k_is_empty 10 [.dat botD]=some (.dat (.bool true)):=by kernel_rfl
theorem freeB_run:@runF opq0.toOpqE (cfg base1 noC) 100 k_free_vars 12 [.dat botD]=some (.dat (.lst [])):=by kernel_rfl
@[reducible] noncomputable def inE:OpqE:=⟨fun _ _=>none⟩
noncomputable def pickB (bot:Bool) (res:DV):DV:=cond bot botD res
noncomputable def conIn (bot:Bool):Con:=conL [(k_names_within,16,pureE (tab1 [(.opq 0,.lst []),(.opq 1,.lst [])])),(k_Meeting_meet,82,meetTab [((.opq 0,.opq 1),pickB bot (.opq 2))]),
 (k_free_vars,16,pureE (tab1 [(.opq 2,.lst []),(botD,.lst [])])),(k_is_empty,16,pureE (tab1 [(.opq 2,.bool false),(botD,.bool true)]))]
theorem in_run (bot:Bool):@runF inE (cfg base1 (conIn bot)) 150 k_intersection 90 [.rinst 4 0,.dat (.opq 0),.dat (.opq 1)]=some (.dat (pickB bot (.opq 2))):=by cases bot <;> kernel_rfl
section
noncomputable def mcOf (p:LL):MtC:=⟨lqb p.1 p.2,(partL p.1 p.2).isEmpty⟩
noncomputable def tokQ (p:LL) (r:Nat):DV:=[kd p.1,nk 0,nk 0,kd p.2,nk 0,nk 0,cond (partL p.1 p.2).isEmpty (nk 0) (kd (meetL p.1 p.2))].getD r (nk 0)
noncomputable def tokMD (ps:List LL) (t:Nat):DV:=Option.rec (nk 0) (fun p=>tokQ p (t % 10)) ps[t / 10]?
theorem meet_lots:lotL.all (fun a=>lotL.all fun c=>(partL a c).isEmpty||decide (meetL a c∈lotL))=true:=by decide +kernel
theorem meetL_lot {a c:List Nat} (ha:a∈lotL) (hc:c∈lotL) (h:(partL a c).isEmpty=false):meetL a c∈lotL:=by
 have z:((partL a c).isEmpty||decide (meetL a c∈lotL))=true:=List.all_eq_true.mp (List.all_eq_true.mp meet_lots a ha) c hc
 rw [h] at z
 exact of_decide_eq_true z
theorem tokM_all {ps:List LL} (hp:InLots ps) {P:DV→Prop} (h1:∀ l∈lotL,P (kd l)) (h2:∀ i,P (nk i)) (t:Nat):P (tokMD ps t):=by
 unfold tokMD
 cases e:ps[t / 10]? with
 | none=>exact h2 0
 | some p =>
  obtain ⟨ha,hc⟩:=hp p (List.mem_of_getElem? e)
  refine getD_all (h2 0) (cons_mem (h1 _ ha) (cons_mem (h2 _) (cons_mem (h2 _) (cons_mem (h1 _ hc) (cons_mem (h2 _) (cons_mem (h2 _) (one_mem ?_))))))) _
  cases q:(partL p.1 p.2).isEmpty with
  | true=>exact h2 0
  | false=>exact h1 _ (meetL_lot ha hc q)
theorem tokM_at {ps:List LL} {p r:Nat} {q:LL} (e:ps[p]?=some q) (hr:Nat.blt r 10=true):tokMD ps (10 * p+r)=tokQ q r:=by
 have hr:r < 10:=Nat.le_of_ble_eq_true hr
 unfold tokMD;rw [show (10 * p+r) / 10=p by omega,e,show (10 * p+r) % 10=r by omega]
theorem tokM_eq {ps:List LL} (hp:InLots ps) {i j:Nat} {b:Bool} (h:(mtE (ps.map mcOf)).eqo i j=some b):deq (tokMD ps i) (tokMD ps j)=b:=ob_e h fun c e h=>gb_e h fun q h=>and_e q fun q1 q=>and_e q fun q2 q3=>by
 rw [List.getElem?_map] at e
 obtain ⟨p,e',rfl⟩:=Option.map_eq_some_iff.mp e
 obtain ⟨ha,hc⟩:=hp p (List.mem_of_getElem? e')
 have ej:tokMD ps j=kd p.2:=by unfold tokMD;rw [← Nat.eq_of_beq_eq_true q1,e',Nat.eq_of_beq_eq_true q3];rfl
 have ei:tokMD ps i=kd p.1:=by unfold tokMD;rw [e',Nat.eq_of_beq_eq_true q2];rfl
 rw [ei,ej,kd_deq ha hc];exact Option.some.inj h
@[reducible] noncomputable def tokM (ps:List LL) (hp:InLots ps):Opq :=
 {toOpqE:=mtE (ps.map mcOf),D:=tokMD ps,nn:=fun i=>(tokM_all hp (fun _=>lot_tk) nk_tk i).1,dep:=fun i=>(tokM_all hp (fun _=>lot_tk) nk_tk i).2,eqk:=fun e=>tokM_eq hp e}
noncomputable def eqLots:List (List Nat)→List (List Nat)→Bool:=zipB lqb
noncomputable def apart (cs ds:List (List Nat)):Bool:=(cs.zip ds).any fun p=>(partL p.1 p.2).isEmpty
noncomputable def meets (cs ds:List (List Nat)):List (List Nat):=(cs.zip ds).map fun p=>meetL p.1 p.2
noncomputable def farD (cs ds:List (List Nat)):DV:=cond (Nat.beq cs.length ds.length) (cond (apart cs ds) botD (sigK (meets cs ds))) botD
noncomputable def interD (cs ds:List (List Nat)):DV:=pick (eqLots cs ds) (undS cs ds) (undS ds cs) (sigK cs) (sigK ds) (farD cs ds)
noncomputable def pad (cs ds:List (List Nat)):List LL:=(List.range (Nat.max cs.length ds.length)).map fun i=>(cs.getD i [0],ds.getD i [0])
section
variable {α β:Type} {cs ds:List (List Nat)}
theorem zip_all (f:α→β→Bool) {l:List α}:∀ {r:List β},l.length=r.length→zipB f l r=(l.zip r).all fun p=>f p.1 p.2:=by
 induction l with
 | nil=>exact fun {r} h=>by rw [len0 h.symm];rfl
 | cons a l ih =>
  intro r h
  cases r with
  | nil=>exact absurd h (Nat.succ_ne_zero _)
  | cons b r=>exact congrArg (and (f a b)) (ih (Nat.succ.inj h))
theorem zip_len {f:α→β→Bool} {l:List α}:∀ {r:List β},zipB f l r=true→l.length=r.length:=by
 induction l with
 | nil=>exact fun {r} h=>by rw [List.isEmpty_iff.mp h];rfl
 | cons a l ih =>
  intro r h
  cases r with
  | nil=>exact nft h
  | cons b r=>exact and_e (show (f a b&&zipB f l r)=true from h) fun _ h=>congrArg Nat.succ (ih h)
theorem getD_at {l:List α} {i:Nat} {a d:α} (e:l[i]?=some a):l.getD i d=a:=by rw [List.getD_eq_getElem?_getD,e];rfl
theorem pad_zip (h:cs.length=ds.length):pad cs ds=cs.zip ds:=by
 unfold pad
 rw [h,show Nat.max ds.length ds.length=ds.length from Nat.max_self _]
 refine List.ext_getElem (by rw [List.length_map,List.length_range,List.length_zip,h,Nat.min_self]) fun i h1 h2=>?_
 rw [List.length_zip] at h2
 rw [List.getElem_map,List.getElem_range,List.getElem_zip,getD_at (List.getElem?_eq_getElem (Nat.lt_of_lt_of_le h2 (Nat.min_le_left ..))),getD_at (List.getElem?_eq_getElem (Nat.lt_of_lt_of_le h2 (Nat.min_le_right ..)))]
theorem getD_al {P:α→Prop} {l:List α} {a:α} (h1:P a) (h:∀ c∈l,P c) (t:Nat):P (l.getD t a):=by
 rw [List.getD_eq_getElem?_getD]
 cases e:l[t]? with
 | none=>exact h1
 | some c=>exact h c (List.mem_of_getElem? e)
theorem pad_lots (hc:Lots cs) (hd:Lots ds):InLots (pad cs ds):=fun p hp=>by
 obtain ⟨i,_,rfl⟩:=List.mem_map.mp hp
 exact ⟨getD_al zero_lot hc i,getD_al zero_lot hd i⟩
theorem pad_at {i:Nat} (h:i < Nat.max cs.length ds.length):(pad cs ds)[i]?=some (cs.getD i [0],ds.getD i [0]):=by
 unfold pad;rw [List.getElem?_map,List.getElem?_range h];rfl
theorem sub_tu {D:Nat→DV} {f:Nat→Nat} {l:List α} {g:α→DV} (h:∀ {p q},l[p]?=some q→D (f p)=g q):subD D (tuD ((List.range l.length).map fun p=>.opq (f p)))=tuD (l.map g):=by
 show tuD (subDL D _)=_
 rw [subDL_map]
 exact congrArg tuD (range_map h)
theorem lt_max {a b i:Nat} (h:i < a):i < Nat.max a b:=Nat.lt_of_lt_of_le h (Nat.le_max_left ..)
theorem lt_max' {a b i:Nat} (h:i < b):i < Nat.max a b:=Nat.lt_of_lt_of_le h (Nat.le_max_right ..)
theorem one_sub:subD (tokMD (pad cs ds)) (oneD cs.length)=sigK cs:=sub_tu (l:=cs) fun {p q} e=>(tokM_at (pad_at (lt_max (List.getElem?_eq_some_iff.mp e).1)) rfl).trans (congrArg kd (getD_at e))
theorem other_sub:subD (tokMD (pad cs ds)) (otherD ds.length)=sigK ds:=sub_tu (l:=ds) fun {p q} e=>(tokM_at (pad_at (lt_max' (List.getElem?_eq_some_iff.mp e).1)) rfl).trans (congrArg kd (getD_at e))
theorem sub_pick (D:Nat→DV) (e s1 s2:Bool) (x y z:DV):subD D (pick e s1 s2 x y z)=pick e s1 s2 (subD D x) (subD D y) (subD D z):=by
 cases e
 ·cases s1
  ·cases s2 <;> rfl
  ·rfl
 ·rfl
theorem far_sub:subD (tokMD (pad cs ds)) (cond (Nat.beq cs.length ds.length) (cond (((pad cs ds).map mcOf).any (·.bot)) botD (mOut cs.length)) botD)=farD cs ds:=by
 unfold farD
 cases q:Nat.beq cs.length ds.length with
 | false=>rfl
 | true =>
  have hl:=Nat.eq_of_beq_eq_true q
  have e:((pad cs ds).map mcOf).any (·.bot)=apart cs ds:=by rw [List.any_map,pad_zip hl];rfl
  rw [e]
  cases z:apart cs ds with
  | true=>rfl
  | false =>
   rw [pad_zip hl]
   have hz:(cs.zip ds).length=cs.length:=by rw [List.length_zip,hl,Nat.min_self]
   show subD _ (tuD ((List.range cs.length).map fun p=>.opq (10 * p+6)))=tuD (((cs.zip ds).map fun p=>meetL p.1 p.2).map kd)
   rw [List.map_map,← hz]
   refine sub_tu (l:=cs.zip ds) fun {p q} e=>(tokM_at e rfl).trans ?_
   have hq:(partL q.1 q.2).isEmpty=false:=Bool.eq_false_iff.mpr fun y=>nft (z.symm.trans (List.any_eq_true.mpr ⟨q,List.mem_of_getElem? e,y⟩))
   show cond (partL q.1 q.2).isEmpty _ _=_
   rw [hq];rfl
theorem eq_sub:(Nat.beq cs.length ds.length&&((pad cs ds).map mcOf).all (·.eac))=eqLots cs ds:=by
 cases q:Nat.beq cs.length ds.length with
 | false =>
  cases z:eqLots cs ds with
  | false=>rfl
  | true=>rw [zip_len z,Nat.beq_refl] at q;exact nft q.symm
 | true =>
  have hl:=Nat.eq_of_beq_eq_true q
  rw [List.all_map,pad_zip hl]
  exact (zip_all lqb hl).symm
theorem mt_all {k l:Nat} (h:okLen k l) (s1 s2:Bool):∀ ms:List MtC,ms.length=Nat.max k l→mtOK ms k l s1 s2:=by
 refine ok_e (P:=fun k l=>∀ ms:List MtC,ms.length=Nat.max k l→mtOK ms k l s1 s2) h (fun ms h=>?_) (fun ms h=>?_) (fun ms h=>?_) (fun ms h=>?_) (fun ms h=>?_) (fun ms h=>?_)
 ·obtain ⟨a,rfl⟩:=len1 h;exact mt1 a s1 s2
 ·obtain ⟨a,b,rfl⟩:=len2 h;exact (mt2 a b s1 s2).1.1
 ·obtain ⟨a,b,rfl⟩:=len2 h;exact (mt2 a b s1 s2).1.2
 ·obtain ⟨a,b,rfl⟩:=len2 h;exact (mt2 a b s1 s2).2
 ·obtain ⟨a,b,c,rfl⟩:=len3 h;exact (mt3 a b c s1 s2).1
 ·obtain ⟨a,b,c,rfl⟩:=len3 h;exact (mt3 a b c s1 s2).2
theorem sig_e {P:List (List Nat)→Prop} (hs:SigLen cs) (h1:∀ a,P [[a]]) (h2:∀ a b,P [[a,b]]) (h3:∀ a b,P [[a],[b]]) (h4:∀ a b c,P [[a],[b,c]]) (h5:∀ a b c,P [[a,b],[c]]) (h6:∀ a b c d,P [[a,b],[c,d]])
  (h7:∀ a b c,P [[a],[b],[c]]) (h8:∀ a b c d,P [[a],[b,c],[d]]) (h9:∀ a b c d,P [[a,b],[c],[d]]) (h10:∀ a b c d e,P [[a,b],[c,d],[e]]):P cs:=by
 have at_:∀ {n:Nat} {ns:List Nat} {l:List (List Nat)},List.map List.length l=n::ns→∃ a r,l=a::r∧a.length=n∧r.map List.length=ns:=fun {n ns l} e=>by
  cases l with
  | nil=>exact absurd e (List.cons_ne_nil _ _).symm
  | cons a r=>exact ⟨a,r,rfl,(List.cons.inj e).1,(List.cons.inj e).2⟩
 have nil_:∀ {l:List (List Nat)},l.map List.length=[]→l=[]:=fun e=>List.map_eq_nil_iff.mp e
 refine cons_mem (p:=fun ns=>∀ cs:List (List Nat),cs.map List.length=ns→P cs) (fun cs e=>?_) (cons_mem (fun cs e=>?_) (cons_mem (fun cs e=>?_) (cons_mem (fun cs e=>?_) (cons_mem (fun cs e=>?_) (cons_mem (fun cs e=>?_) (cons_mem (fun cs e=>?_) (cons_mem (fun cs e=>?_) (cons_mem (fun cs e=>?_) (one_mem fun cs e=>?_))))))))) _ hs cs rfl
 ·obtain ⟨_,_,rfl,a,e1⟩:=at_ e;obtain ⟨_,rfl⟩:=len1 a;rw [nil_ e1];exact h1 _
 ·obtain ⟨_,_,rfl,a,e1⟩:=at_ e;obtain ⟨_,_,rfl⟩:=len2 a;rw [nil_ e1];exact h2 _ _
 ·obtain ⟨_,_,rfl,a,e1⟩:=at_ e;obtain ⟨_,rfl⟩:=len1 a;obtain ⟨_,_,rfl,a,e2⟩:=at_ e1;obtain ⟨_,rfl⟩:=len1 a;rw [nil_ e2];exact h3 _ _
 ·obtain ⟨_,_,rfl,a,e1⟩:=at_ e;obtain ⟨_,rfl⟩:=len1 a;obtain ⟨_,_,rfl,a,e2⟩:=at_ e1;obtain ⟨_,_,rfl⟩:=len2 a;rw [nil_ e2];exact h4 _ _ _
 ·obtain ⟨_,_,rfl,a,e1⟩:=at_ e;obtain ⟨_,_,rfl⟩:=len2 a;obtain ⟨_,_,rfl,a,e2⟩:=at_ e1;obtain ⟨_,rfl⟩:=len1 a;rw [nil_ e2];exact h5 _ _ _
 ·obtain ⟨_,_,rfl,a,e1⟩:=at_ e;obtain ⟨_,_,rfl⟩:=len2 a;obtain ⟨_,_,rfl,a,e2⟩:=at_ e1;obtain ⟨_,_,rfl⟩:=len2 a;rw [nil_ e2];exact h6 _ _ _ _
 ·obtain ⟨_,_,rfl,a,e1⟩:=at_ e;obtain ⟨_,rfl⟩:=len1 a;obtain ⟨_,_,rfl,a,e2⟩:=at_ e1;obtain ⟨_,rfl⟩:=len1 a;obtain ⟨_,_,rfl,a,e3⟩:=at_ e2;obtain ⟨_,rfl⟩:=len1 a;rw [nil_ e3];exact h7 _ _ _
 ·obtain ⟨_,_,rfl,a,e1⟩:=at_ e;obtain ⟨_,rfl⟩:=len1 a;obtain ⟨_,_,rfl,a,e2⟩:=at_ e1;obtain ⟨_,_,rfl⟩:=len2 a;obtain ⟨_,_,rfl,a,e3⟩:=at_ e2;obtain ⟨_,rfl⟩:=len1 a;rw [nil_ e3];exact h8 _ _ _ _
 ·obtain ⟨_,_,rfl,a,e1⟩:=at_ e;obtain ⟨_,_,rfl⟩:=len2 a;obtain ⟨_,_,rfl,a,e2⟩:=at_ e1;obtain ⟨_,rfl⟩:=len1 a;obtain ⟨_,_,rfl,a,e3⟩:=at_ e2;obtain ⟨_,rfl⟩:=len1 a;rw [nil_ e3];exact h9 _ _ _ _
 ·obtain ⟨_,_,rfl,a,e1⟩:=at_ e;obtain ⟨_,_,rfl⟩:=len2 a;obtain ⟨_,_,rfl,a,e2⟩:=at_ e1;obtain ⟨_,_,rfl⟩:=len2 a;obtain ⟨_,_,rfl,a,e3⟩:=at_ e2;obtain ⟨_,rfl⟩:=len1 a;rw [nil_ e3];exact h10 _ _ _ _ _
theorem fv_sig (hs:SigLen cs):fvs (cs.map kd) :=
 sig_e (P:=fun cs=>fvs (cs.map kd)) hs (fun a=>(fv1 (nmC a) []).1) (fun a b=>(fv1 (nmC a) (nmC b)).2) (fun a b=>(fv2 (nmC a) [] (nmC b) []).1.1) (fun a b c=>(fv2 (nmC a) [] (nmC b) (nmC c)).1.2) (fun a b c=>(fv2 (nmC a) (nmC b) (nmC c) []).2.1) (fun a b c d=>(fv2 (nmC a) (nmC b) (nmC c) (nmC d)).2.2)
  (fun a b c=>(fv3 (nmC a) [] (nmC b) [] (nmC c)).1.1) (fun a b c d=>(fv3 (nmC a) [] (nmC b) (nmC c) (nmC d)).1.2) (fun a b c d=>(fv3 (nmC a) (nmC b) (nmC c) [] (nmC d)).2.1) (fun a b c d e=>(fv3 (nmC a) (nmC b) (nmC c) (nmC d) (nmC e)).2.2)
end
section
variable {w:World} {h:Heap} {K:Frag} {φb:Nat→Option Addr} {ps:List LL} {cs ds:List (List Nat)}
theorem mParts_ok (E:Wd h K) (hp:InLots ps):∀ q∈mParts (ps.map mcOf),MeetF w h K φb 70 (subD (tokMD ps) q.1.1) (subD (tokMD ps) q.1.2) (subD (tokMD ps) q.2):=fun q hq=>by
 obtain ⟨p,hpr,rfl⟩:=List.mem_map.mp hq
 rw [List.length_map] at hpr
 have hlt:=List.mem_range.mp hpr
 have e:=List.getElem?_eq_getElem hlt
 obtain ⟨ha,hc⟩:=hp _ (List.getElem_mem hlt)
 have t0:subD (tokMD ps) (.opq (10 * p+0))=kd ps[p].1:=tokM_at e rfl
 have t3:subD (tokMD ps) (.opq (10 * p+3))=kd ps[p].2:=tokM_at e rfl
 have t6:tokMD ps (10 * p+6)=cond (partL ps[p].1 ps[p].2).isEmpty (nk 0) (kd (meetL ps[p].1 ps[p].2)):=tokM_at e rfl
 have hg:(ps.map mcOf).getD p ⟨false,true⟩=mcOf ps[p]:=getD_at (by rw [List.getElem?_map,e];rfl)
 have ek:subD (tokMD ps) (mPart p (mcOf ps[p]))=meetD ps[p].1 ps[p].2:=by
  unfold mPart mcOf meetD
  dsimp only
  cases z:(partL ps[p].1 ps[p].2).isEmpty with
  | true=>rfl
  | false=>rw [z] at t6;exact t6
 dsimp only
 rw [hg,ek,t0,t3]
 exact meet_lot E ha hc
theorem emptyB (E:Wd h K) (H:Hp):CF w h K φb k_is_empty 14 [.dat botD] H (.dat (.bool true)):=CG.mono (closed_call E emptyB_run rfl rfl H) (Nat.le_of_ble_eq_true rfl)
theorem freeB (E:Wd h K) (H:Hp):CF w h K φb k_free_vars 16 [.dat botD] H (.dat (.lst [])):=CG.mono (closed_call E freeB_run rfl rfl H) (Nat.le_of_ble_eq_true rfl)
theorem emptyM (E:Wd h K) (hp:InLots ps) (t:Nat) (H:Hp):CF w h K φb k_is_empty 14 [.dat (tokMD ps t)] H noV :=
 tokM_all hp (P:=fun d=>CF w h K φb k_is_empty 14 [.dat d] H noV) (fun l hl=>CG.mono (closed_call E (List.map_inj_left.mp empty_run l hl) rfl rfl H) (Nat.le_of_ble_eq_true rfl)) (fun i=>CG.mono (closed_call E (emptyN_run _) rfl rfl H) (Nat.le_of_ble_eq_true rfl)) t
theorem free_sig (E:Wd h K) (hl:SigLen cs) (H:Hp):CF w h K φb k_free_vars 16 [.dat (sigK cs)] H (.dat (.lst [])):=CG.mono (closed_call E (fv_sig hl).1 rfl rfl H) (Nat.le_of_ble_eq_true rfl)
theorem within_sig (E:Wd h K) (hl:SigLen cs) (H:Hp):CF w h K φb k_names_within 16 [.dat (sigK cs)] H (.dat (.lst [])):=CG.mono (closed_call E (fv_sig hl).2 rfl rfl H) (Nat.le_of_ble_eq_true rfl)
theorem subF_sig (E:Wd h K) (hc:Lots cs) (hd:Lots ds) (hs:SigLen cs) (hl:okLen cs.length ds.length):SubF w h K φb (sigK cs) (sigK ds) (undS cs ds):=fun H=>CG.mono (sub_sig E hc hd hs hl H) (Nat.le_of_ble_eq_true rfl)
theorem meet_sig (E:Wd h K) (hc:Lots cs) (hd:Lots ds) (sc:SigLen cs) (sd:SigLen ds) (hl:okLen cs.length ds.length):MeetF w h K φb 80 (sigK cs) (sigK ds) (interD cs ds):=by
 have hp:=pad_lots hc hd
 have ok:ConOK w h K φb (tokM _ hp) (conMT ((pad cs ds).map mcOf) cs.length ds.length (undS cs ds) (undS ds cs)):=conL_ok (cons_mem (tabSub_ok (cons_mem (by rw [one_sub,other_sub];exact subF_sig E hc hd sc hl) (one_mem (by rw [one_sub,other_sub];exact subF_sig E hd hc sd (okLen_symm hl)))))
  (cons_mem (tab1_ok rfl (cons_mem (fun H=>by rw [one_sub];exact free_sig E sc H) (one_mem fun H=>by rw [other_sub];exact free_sig E sd H)))
  (cons_mem (tab1_ok rfl (cons_mem (emptyB E) fun x hx H=>by obtain ⟨p,_,rfl⟩:=List.mem_map.mp hx;exact emptyM E hp _ H)) (one_mem (meetTab_ok (mParts_ok E hp))))))
 have r:=meet_run (w:=w) (φb:=φb) E ok (mt_all hl _ _ ((pad cs ds).map mcOf) (by rw [List.length_map];exact (List.length_map ..).trans List.length_range))
 rw [one_sub,other_sub] at r
 unfold mtWant at r
 rwa [sub_pick,one_sub,other_sub,far_sub,eq_sub] at r
end
end
section
noncomputable def inD (one other res:DV) (t:Nat):DV:=Nat.rec one (fun t _=>Nat.rec other (fun _ _=>res) t) t
theorem inD_tk {one other res:DV} (h1:Tk one) (h2:Tk other) (h3:Tk res) (t:Nat):Tk (inD one other res t):=by
 cases t with
 | zero=>exact h1
 | succ t=>cases t with
  | zero=>exact h2
  | succ t=>exact h3
@[reducible] noncomputable def inI (one other res:DV) (h:∀ t,Tk (inD one other res t)):Opq :=
 {toOpqE:=inE,D:=inD one other res,nn:=fun t=>(h t).1,dep:=fun t=>(h t).2,eqk:=fun e=>nos e}
theorem sz_len:nasL.all (fun n=>memN [1,2,3] n.length)=true:=by decide
theorem lot_len:lotL.all (fun l=>memN [1,2] l.length)=true:=by decide +kernel
section
variable {w:World} {h:Heap} {K:Frag} {φb:Nat→Option Addr} {cs ds:List (List Nat)}
theorem sig_len (hs:SigLen cs):cs.length=1∨cs.length=2∨cs.length=3:=by
 have:=List.all_eq_true.mp sz_len _ hs
 rw [List.length_map] at this
 simpa using memN_mem this
theorem lotsH {a:List Nat} {l:List (List Nat)} (h:Lots (a::l)):a∈lotL:=h a (List.mem_cons_self ..)
theorem lotsTl {a:List Nat} {l:List (List Nat)} (h:Lots (a::l)):Lots l:=fun c q=>h c (List.mem_cons_of_mem _ q)
theorem sig12 (hc:Lots cs) (hl:cs.length=1∨cs.length=2):SigLen cs:=by
 have ln:∀ {a},a∈lotL→a.length=1∨a.length=2:=fun ha=>by simpa using memN_mem (List.all_eq_true.mp lot_len _ ha)
 unfold SigLen
 rcases hl with e | e
 ·obtain ⟨a,rfl⟩:=len1 e
  rcases ln (lotsH hc) with q | q <;> (rw [List.map_cons,q];decide)
 ·obtain ⟨a,b,rfl⟩:=len2 e
  rcases ln (lotsH hc) with q | q <;> rcases ln (lotsH (lotsTl hc)) with q' | q' <;> (rw [List.map_cons,List.map_cons,q,q'];decide)
theorem empty_sig (E:Wd h K) (hc:Lots cs) (hs:SigLen cs) (H:Hp):CF w h K φb k_is_empty 16 [.dat (sigK cs)] H noV:=by
 have hp:InLots (cs.map fun c=>(c,[0])):=fun p q=>by
  obtain ⟨c,h1,rfl⟩:=List.mem_map.mp q
  exact ⟨hc c h1,zero_lot⟩
 have ea:subD (tokD (cs.map fun c=>(c,[0]))) (tuD ((List.range cs.length).map fun p=>.opq (10 * p+0)))=sigK cs:=sub_tu fun {p q} e=>tok_at (q:=(q,[0])) (by rw [List.getElem?_map,e];rfl) rfl
 have go:emptyT (tokI _ hp).toOpqE ((List.range cs.length).map fun p=>.opq (10 * p+0))→CF w h K φb k_is_empty 16 [.dat (sigK cs)] H noV:=fun e=>by
  have r:CF w h K φb k_is_empty 13 [.dat (subD (tokD (cs.map fun c=>(c,[0]))) (tuD ((List.range cs.length).map fun p=>.opq (10 * p+0))))] H noV:=layer_pure (I:=tokI _ hp) E (conE0_ok E hp) e rfl rfl H
  rw [ea] at r
  exact CG.mono r (Nat.le_of_ble_eq_true rfl)
 refine go ?_
 rcases sig_len hs with e | e | e
 ·rw [e];exact (emptyTs _ 0 10 20).1
 ·rw [e];exact (emptyTs _ 0 10 20).2.1
 ·rw [e];exact (emptyTs _ 0 10 20).2.2
theorem inter_gen (E:Wd h K) {one other res:DV} {bot:Bool} (h1:Tk one) (h2:Tk other) (h3:Tk res) (n1:∀ H,CF w h K φb k_names_within 16 [.dat one] H (.dat (.lst []))) (n2:∀ H,CF w h K φb k_names_within 16 [.dat other] H (.dat (.lst [])))
  (m:MeetF w h K φb 82 one other (pickB bot res)) (f:∀ H,CF w h K φb k_free_vars 16 [.dat res] H (.dat (.lst []))) (e:∀ H,CF w h K φb k_is_empty 16 [.dat res] H noV) (H:Hp):CF w h K φb k_intersection 90 [.rinst 4 0,.dat one,.dat other] H (.dat (pickB bot res)):=by
 have ht:=inD_tk h1 h2 h3
 have hb:subD (inD one other res) (pickB bot (.opq 2))=pickB bot res:=by cases bot <;> rfl
 have ok:ConOK w h K φb (inI one other res ht) (conIn bot):=conL_ok (cons_mem (tab1_ok rfl (cons_mem n1 (one_mem n2))) (cons_mem (meetTab_ok (one_mem (by rw [hb];exact m))) (cons_mem (tab1_ok rfl (cons_mem f (one_mem (freeB E)))) (one_mem (tab1_ok rfl (cons_mem e (one_mem fun H=>CG.mono (emptyB E H) (Nat.le_of_ble_eq_true rfl))))))))
 have r:CF w h K φb k_intersection 90 [.rinst 4 0,.dat one,.dat other] H (.dat (subD (inD one other res) (pickB bot (.opq 2)))):=layer_pure (I:=inI one other res ht) E ok (vs:=[.rinst 4 0,.dat (.opq 0),.dat (.opq 1)]) (in_run bot) (by rfl) (by cases bot <;> rfl) H
 rwa [hb] at r
theorem meets_ok (hc:Lots cs) (hd:Lots ds) (e:cs.length=ds.length) (hl:okLen cs.length ds.length) (ha:apart cs ds=false):Lots (meets cs ds)∧SigLen (meets cs ds):=by
 have z:Lots (meets cs ds):=fun l hx=>by
  obtain ⟨⟨a,b⟩,hm,rfl⟩:=List.mem_map.mp hx
  have hz:=List.of_mem_zip hm
  exact meetL_lot (hc a hz.1) (hd b hz.2) (Bool.eq_false_iff.mpr fun y=>nft (ha.symm.trans (List.any_eq_true.mpr ⟨(a,b),hm,y⟩)))
 refine ⟨z,sig12 z ?_⟩
 have hlen:(meets cs ds).length=cs.length:=by unfold meets;rw [List.length_map,List.length_zip,← e,Nat.min_self]
 rw [hlen]
 exact ok_e (P:=fun k l=>k=l→k=1∨k=2) hl (fun _=>.inl rfl) (fun _=>.inr rfl) (fun _=>.inl rfl) (fun _=>.inr rfl) (fun q=>absurd q (by decide)) (fun _=>.inr rfl) e
theorem interD_sig (hc:Lots cs) (hd:Lots ds) (sc:SigLen cs) (sd:SigLen ds) (hl:okLen cs.length ds.length):∃ bot es,interD cs ds=pickB bot (sigK es)∧Lots es∧SigLen es:=by
 unfold interD
 cases eqLots cs ds with
 | true=>exact ⟨false,cs,rfl,hc,sc⟩
 | false=>cases undS cs ds with
  | true=>exact ⟨false,cs,rfl,hc,sc⟩
  | false=>cases undS ds cs with
   | true=>exact ⟨false,ds,rfl,hd,sd⟩
   | false =>
    show ∃ bot es,farD cs ds=_∧_
    unfold farD
    cases q:Nat.beq cs.length ds.length with
    | false=>exact ⟨true,cs,rfl,hc,sc⟩
    | true=>cases z:apart cs ds with
     | true=>exact ⟨true,cs,rfl,hc,sc⟩
     | false =>
      obtain ⟨a,b⟩:=meets_ok hc hd (Nat.eq_of_beq_eq_true q) hl z
      exact ⟨false,meets cs ds,rfl,a,b⟩
theorem inter_sig (E:Wd h K) (hc:Lots cs) (hd:Lots ds) (sc:SigLen cs) (sd:SigLen ds) (hl:okLen cs.length ds.length) (H:Hp):CF w h K φb k_intersection 90 [.rinst 4 0,.dat (sigK cs),.dat (sigK ds)] H (.dat (interD cs ds)):=by
 obtain ⟨bot,es,e,he,hs⟩:=interD_sig hc hd sc sd hl
 have m:=MeetF.mono (meet_sig (w:=w) (φb:=φb) E hc hd sc sd hl) (d':=82) rfl
 rw [e] at m ⊢
 exact inter_gen E (sig_tk hc) (sig_tk hd) (sig_tk he) (within_sig E sc) (within_sig E sd) m (free_sig E hs) (empty_sig E he hs) H
end
end
section
noncomputable def lookDL (l:List (List DV×DV)) (d:List DV):Option DV:=lrec none (fun p _ q=>cond (dvE (.tup p.1) (.tup d)) (some p.2) q) l
theorem lookDL_mem {l:List (List DV×DV)} {d:List DV} {v:DV} (h:lookDL l d=some v):(d,v)∈l:=by
 induction l with
 | nil=>exact nos h
 | cons p r ih =>
  replace h:cond (dvE (.tup p.1) (.tup d)) (some p.2) (lookDL r d)=some v:=h
  cases q:dvE (.tup p.1) (.tup d) with
  | true=>rw [q] at h;rw [← Option.some.inj h,← Option.some.inj (congrArg asTup (dvE_eq q))];exact List.mem_cons_self ..
  | false=>rw [q] at h;exact List.mem_cons_of_mem _ (ih h)
noncomputable def argsT (isK:Bool) (ds:List DV):List AV:=cond isK (.rinst 4 0::datL ds) (datL ds)
noncomputable def tabD (l:List (List DV×DV)) (vs:List AV):Option AV:=ob (allDat vs) fun ds=>ob (lookDL l ds) fun d=>some (.dat d)
noncomputable def tabF (isK:Bool) (l:List (List DV×DV)) (vs:List AV):Option AV:=cond isK (List.rec none (fun a r _=>gb (isRi a) (tabD l r)) vs) (tabD l vs)
structure LE where
 k:Nat
 d:Nat
 isK:Bool
 tab:List (List DV×DV)
noncomputable def conT (es:List LE):Con:=conL (es.map fun e=>(e.k,e.d,pureE (tabF e.isK e.tab)))
theorem tabD_e {l:List (List DV×DV)} {vs:List AV} {v:AV} (e:tabD l vs=some v):∃ ds d,vs=datL ds∧v=.dat d∧(ds,d)∈l :=
 ob_e e fun ds e1 e=>ob_e e fun d e2 e=>⟨ds,d,allDat_eq e1,(Option.some.inj e).symm,lookDL_mem e2⟩
theorem tabF_e {isK:Bool} {l:List (List DV×DV)} {vs:List AV} {v:AV} (e:tabF isK l vs=some v):∃ ds d,vs=argsT isK ds∧v=.dat d∧(ds,d)∈l:=by
 cases isK with
 | false=>exact tabD_e e
 | true=>cases vs with
  | nil=>exact nos e
  | cons a r=>exact gb_e e fun q e=>let ⟨ds,d,h1,h⟩:=tabD_e e;⟨ds,d,by rw [isRi_eq q,h1];rfl,h⟩
theorem datL_put (D:Nat→DV) (ds:List DV):putVL D (datL ds)=datL (subDL D ds):=by
 induction ds with
 | nil=>rfl
 | cons d r ih=>exact congrArg (List.cons _) ih
theorem argsT_put (D:Nat→DV) (isK:Bool) (ds:List DV):putVL D (argsT isK ds)=argsT isK (subDL D ds):=by
 cases isK with
 | false=>exact datL_put D ds
 | true=>exact congrArg (List.cons (AV.rinst 4 0)) (datL_put D ds)
theorem datL_closed (ds:List DV):closedL (datL ds)=true:=List.all_eq_true.mpr fun v h=>by obtain ⟨d,_,rfl⟩:=List.mem_map.mp h;rfl
theorem argsT_closed (isK:Bool) (ds:List DV):closedL (argsT isK ds)=true:=by cases isK <;> exact datL_closed ds
section
variable {w:World} {h:Heap} {K:Frag} {φb:Nat→Option Addr} {I:Opq}
noncomputable def FT (w:World) (h:Heap) (K:Frag) (φb:Nat→Option Addr) (k d:Nat) (isK:Bool) (ds:List DV) (r:DV):Prop:=∀ H,CF w h K φb k d (argsT isK ds) H (.dat r)
theorem FT.mono {k d d':Nat} {isK:Bool} {ds:List DV} {r:DV} (h0:FT w h K φb k d isK ds r) (hd:Nat.ble d d'=true):FT w h K φb k d' isK ds r:=fun H=>CG.mono (h0 H) (Nat.le_of_ble_eq_true hd)
noncomputable def LeOK (w:World) (h:Heap) (K:Frag) (φb:Nat→Option Addr) (I:Opq) (e:LE):Prop:=Nat.blt e.k 74=true∧∀ x∈e.tab,FT w h K φb e.k e.d e.isK (subDL I.D x.1) (subD I.D x.2)
theorem le_ok {e:LE} (h1:LeOK w h K φb I e):CeOK w h K φb I (e.k,e.d,pureE (tabF e.isK e.tab)):=pure_ok h1.1 fun H ev=>by
 obtain ⟨ds,d,rfl,rfl,m⟩:=tabF_e ev
 rw [argsT_put]
 exact h1.2 _ m H
theorem conT_ok {es:List LE} (h1:∀ e∈es,LeOK w h K φb I e):ConOK w h K φb I (conT es):=conL_ok fun x hx=>by
 obtain ⟨e,he,rfl⟩:=List.mem_map.mp hx
 exact le_ok (h1 e he)
theorem noT_ok:ConOK w h K φb I (conT []):=conT_ok fun e he=>absurd he List.not_mem_nil
theorem layerT (E:Wd h K) {con:Con} (c:ConOK w h K φb I con) {n f d:Nat} {isK:Bool} {ds:List DV} {r:DV} (e:@runF I.toOpqE (cfg base1 con) n f d (argsT isK ds)=some (.dat r)):FT w h K φb f d isK (subDL I.D ds) (subD I.D r):=fun H=>by
 have:=layer_pure (w:=w) (φb:=φb) E c e (argsT_closed _ _) rfl H
 rwa [argsT_put] at this
end
noncomputable def lsD (ds:List DV) (t:Nat):DV:=ds.getD t (.str [])
theorem lsD_tk {ds:List DV} (h:∀ d∈ds,Tk d) (t:Nat):Tk (lsD ds t):=getD_all ⟨rfl,Nat.zero_le _⟩ h t
@[reducible] noncomputable def lsI (ds:List DV) (h:∀ d∈ds,Tk d):Opq :=
 {toOpqE:=inE,D:=lsD ds,nn:=fun t=>(lsD_tk h t).1,dep:=fun t=>(lsD_tk h t).2,eqk:=fun e=>nos e}
theorem ls_eq {ds:List DV} {i j:Nat} {b:Bool} (e:gb (Nat.beq i 0&&Nat.beq j 1) (some (deq (lsD ds 0) (lsD ds 1)))=some b):deq (lsD ds i) (lsD ds j)=b:=gb_e e fun q e=>and_e q fun q1 q2=>by
 rw [Nat.eq_of_beq_eq_true q1,Nat.eq_of_beq_eq_true q2];exact Option.some.inj e
@[reducible] noncomputable def eqI (ds:List DV) (h:∀ d∈ds,Tk d):Opq :=
 {toOpqE:=genE (deq (lsD ds 0) (lsD ds 1)),D:=lsD ds,nn:=fun t=>(lsD_tk h t).1,dep:=fun t=>(lsD_tk h t).2,eqk:=fun e=>ls_eq e}
noncomputable abbrev bD (b:Bool):DV:=.bool b
noncomputable def runT (e:OpqE) (es:List LE) (n f d:Nat) (isK:Bool) (ds:List DV):Option AV:=@runF e (cfg base1 (conT es)) n f d (argsT isK ds)
theorem bind_run (d:DV):@runF opq0.toOpqE (cfg base1 noC) 60 k_binders_many 4 [.dat (.tup [.str tupW,d,.none])]=some (.dat (.int 0)):=by kernel_rfl
noncomputable def msC (b1 b2:Bool):List LE:=[⟨k_is_subtype,42,true,[([.opq 0,.opq 1],bD b1),([.opq 1,.opq 0],bD b2)]⟩,⟨k_binders_many,4,false,[([.opq 0],.int 0),([.opq 1],.int 0)]⟩]
theorem ms_run (b1 b2:Bool):runT inE (msC b1 b2) 60 k_is_more_specific 44 true [.opq 0,.opq 1]=some (.dat (bD (b1&&!b2))):=by
 cases b1 <;> cases b2 <;> kernel_rfl
noncomputable def skC (b1 b2:Bool):List LE:=[⟨k_is_subtype,42,true,[([.opq 0,.opq 1],bD b1),([.opq 1,.opq 0],bD b2)]⟩]
theorem sk_run (e b1 b2:Bool):runT (genE e) (skC b1 b2) 60 k_same_kind 44 true [.opq 0,.opq 1]=some (.dat (bD (e||(b1&&b2)))):=by
 cases e <;> cases b1 <;> cases b2 <;> kernel_rfl
noncomputable def stC (b0 b1 b2:Bool):List LE:=[⟨k_is_subtype,42,true,[([.opq 3,.opq 0],bD b0)]⟩,⟨k_is_more_specific,44,true,[([.opq 0,.opq 1],bD b1),([.opq 0,.opq 2],bD b2)]⟩]
theorem st_run (b0 b1 b2:Bool):runT inE (stC b0 b1 b2) 60 k_is_settled_by 46 true [.opq 0,.opq 1,.opq 2,.opq 3]=some (.dat (bD (b0&&(b1&&b2)))):=by
 cases b0 <;> cases b1 <;> cases b2 <;> kernel_rfl
structure SigP (cs:List (List Nat)):Prop where
 l:Lots cs
 s:SigLen cs
structure Okp (cs ds:List (List Nat)):Prop where
 a:SigP cs
 b:SigP ds
 l:okLen cs.length ds.length
theorem Okp.symm {cs ds:List (List Nat)} (h:Okp cs ds):Okp ds cs:=⟨h.b,h.a,okLen_symm h.l⟩
noncomputable def msS (cs ds:List (List Nat)):Bool:=undS cs ds&&!undS ds cs
theorem SigP.tk {cs:List (List Nat)} (h:SigP cs):Tk (sigK cs):=sig_tk h.l
theorem tk2 {a b:DV} (ha:Tk a) (hb:Tk b):∀ d∈[a,b],Tk d:=cons_mem ha (one_mem hb)
section
variable {w:World} {h:Heap} {K:Frag} {φb:Nat→Option Addr} {cs ds ts es:List (List Nat)}
theorem sub_t (E:Wd h K) (ok:Okp cs ds):FT w h K φb k_is_subtype 42 true [sigK cs,sigK ds] (bD (undS cs ds)):=fun H=>CG.mono (sub_sig E ok.a.l ok.b.l ok.a.s ok.l H) (Nat.le_of_ble_eq_true rfl)
theorem inter_t (E:Wd h K) (ok:Okp cs ds):FT w h K φb k_intersection 90 true [sigK cs,sigK ds] (interD cs ds):=fun H=>inter_sig E ok.a.l ok.b.l ok.a.s ok.b.s ok.l H
theorem bind_t (E:Wd h K) (cs:List (List Nat)):FT w h K φb k_binders_many 4 false [sigK cs] (.int 0):=fun H=>closed_call E (bind_run (.tup (cs.map kd))) rfl rfl H
theorem ms_t (E:Wd h K) (ok:Okp cs ds):FT w h K φb k_is_more_specific 44 true [sigK cs,sigK ds] (bD (msS cs ds)):=by
 have c:ConOK w h K φb (lsI [sigK cs,sigK ds] (tk2 ok.a.tk ok.b.tk)) (conT (msC (undS cs ds) (undS ds cs))):=conT_ok (cons_mem ⟨rfl,cons_mem (sub_t E ok) (one_mem (sub_t E ok.symm))⟩ (one_mem ⟨rfl,cons_mem (bind_t E cs) (one_mem (bind_t E ds))⟩))
 exact layerT E c (ms_run (undS cs ds) (undS ds cs))
theorem sk_t (E:Wd h K) (ok:Okp cs ds):FT w h K φb k_same_kind 44 true [sigK cs,sigK ds] (bD (undS cs ds&&undS ds cs)):=by
 have c:ConOK w h K φb (eqI [sigK cs,sigK ds] (tk2 ok.a.tk ok.b.tk)) (conT (skC (undS cs ds) (undS ds cs))):=conT_ok (one_mem ⟨rfl,cons_mem (sub_t E ok) (one_mem (sub_t E ok.symm))⟩)
 have r:=layerT E c (sk_run (deq (sigK cs) (sigK ds)) (undS cs ds) (undS ds cs))
 have e:(deq (sigK cs) (sigK ds)||(undS cs ds&&undS ds cs))=(undS cs ds&&undS ds cs):=by
  cases q:deq (sigK cs) (sigK ds) with
  | false=>rfl
  | true=>rw [deq_sig ok.a.l ok.b.l q,undS_refl ok.b.l];rfl
 rw [e] at r
 exact r
theorem st_t (E:Wd h K) (o1:Okp es ts) (o2:Okp ts cs) (o3:Okp ts ds):FT w h K φb k_is_settled_by 46 true [sigK ts,sigK cs,sigK ds,sigK es] (bD (undS es ts&&(msS ts cs&&msS ts ds))):=by
 have c:ConOK w h K φb (lsI [sigK ts,sigK cs,sigK ds,sigK es] (cons_mem o1.b.tk (cons_mem o2.b.tk (cons_mem o3.b.tk (one_mem o1.a.tk))))) (conT (stC (undS es ts) (msS ts cs) (msS ts ds))):=conT_ok (cons_mem ⟨rfl,one_mem (sub_t E o1)⟩ (one_mem ⟨rfl,cons_mem (ms_t E o2) (one_mem (ms_t E o3))⟩))
 exact layerT E c (st_run (undS es ts) (msS ts cs) (msS ts ds))
end
end
section
noncomputable def setL (a b:List Nat):Bool:=(partL a b).isEmpty||((meetL a b).all (memN (partL a b))&&(partL a b).all (memN (meetL a b)))
theorem set_all:lotL.all (fun a=>lotL.all fun b=>setL a b)=true:=by decide +kernel
theorem mem_memN {l:List Nat} {x:Nat} (h:x∈l):memN l x=true:=by
 induction l with
 | nil=>exact absurd h List.not_mem_nil
 | cons a r ih =>
  show cond (Nat.beq a x) true (memN r x)=true
  rcases beq_cases a x with ⟨q,_⟩ | ⟨q,n⟩
  ·rw [q];rfl
  ·rw [q];exact ih ((List.mem_cons.mp h).resolve_left fun e=>n e.symm)
theorem belL_part {a b c:List Nat} (ha:a∈lotL) (hb:b∈lotL) (hn:(partL a b).isEmpty=false):belL (meetL a b) c=belL (partL a b) c:=by
 have z:setL a b=true:=List.all_eq_true.mp (List.all_eq_true.mp set_all a ha) b hb
 unfold setL at z
 rw [hn] at z
 refine and_e (show ((meetL a b).all (memN (partL a b))&&(partL a b).all (memN (meetL a b)))=true from z) fun q1 q2=>?_
 have q1:=List.all_eq_true.mp q1
 have q2:=List.all_eq_true.mp q2
 exact Bool.eq_iff_iff.mpr ⟨fun h=>List.all_eq_true.mpr fun x hx=>List.all_eq_true.mp h x (memN_mem (q2 x hx)),fun h=>List.all_eq_true.mpr fun x hx=>List.all_eq_true.mp h x (memN_mem (q1 x hx))⟩
theorem eqLots_eq {cs:List (List Nat)}:∀ {ds:List (List Nat)},eqLots cs ds=true→cs=ds:=by
 induction cs with
 | nil=>exact fun h=>(List.isEmpty_iff.mp h).symm
 | cons a l ih =>
  intro ds h
  cases ds with
  | nil=>exact nft h
  | cons b r=>exact and_e (show (lqb a b&&eqLots l r)=true from h) fun h1 h2=>cg2 (f:=List.cons) (lb_iff.mp h1) (ih h2)
section
variable {w:World} {h:Heap} {K:Frag} {φb:Nat→Option Addr} {cs ds:List (List Nat)}
theorem Okp.far (o:Okp cs ds) (e:cs.length=ds.length) (ha:apart cs ds=false):SigP (meets cs ds):=let ⟨a,b⟩:=meets_ok o.a.l o.b.l e o.l ha;⟨a,b⟩
theorem interD_far (ok:Okp cs ds) (h1:undS cs ds=false) (h2:undS ds cs=false):interD cs ds=farD cs ds:=by
 have e:eqLots cs ds=false:=Bool.eq_false_iff.mpr fun q=>by
  rw [eqLots_eq q,undS_refl ok.b.l] at h1
  exact nft h1.symm
 unfold interD
 rw [e,h1,h2];rfl
theorem inter_far (E:Wd h K) (ok:Okp cs ds) (h1:undS cs ds=false) (h2:undS ds cs=false):FT w h K φb k_intersection 90 true [sigK cs,sigK ds] (farD cs ds):=interD_far ok h1 h2 ▸ inter_t E ok
end
noncomputable def toks (n:Nat):List DV:=(List.range n).map .opq
noncomputable def othN (n i j:Nat):List Nat:=(List.range n).filter fun t=>!(Nat.beq t i||Nat.beq t j)
noncomputable def comT (n:Nat):DV:=.tup [.str tupW,.opq n,.none]
noncomputable def comB (n:Nat) (bot:Bool):DV:=cond bot botD (comT n)
noncomputable def ambC (n i j:Nat) (m1 m2 sk bot:Bool) (bs:List Bool):List LE:=[⟨k_is_more_specific,44,true,[([.opq i,.opq j],bD m1),([.opq j,.opq i],bD m2)]⟩,⟨k_same_kind,44,true,[([.opq i,.opq j],bD sk)]⟩,
 ⟨k_intersection,90,true,[([.opq i,.opq j],comB n bot)]⟩,⟨k_is_settled_by,46,true,(List.zip (othN n i j) bs).map fun x=>([.opq x.1,.opq i,.opq j,comT n],bD x.2)⟩]
noncomputable def ambB (m1 m2 sk bot:Bool) (bs:List Bool):Bool:=!(m1||(m2||(sk||(bot||bs.any id))))
noncomputable def prs (n:Nat):List (Nat×Nat):=(List.range n).flatMap fun i=>((List.range n).filter fun j=>Nat.blt i j).map fun j=>(i,j)
noncomputable def ambR (n:Nat) (m1 m2 sk bot:Bool) (bs:List Bool) (p:Nat×Nat):Option AV:=runT inE (ambC n p.1 p.2 m1 m2 sk bot bs) 100 k_are_ambiguous 92 true [.lst (toks n),.int p.1,.int p.2]
noncomputable def ambW (m1 m2 sk bot:Bool) (bs:List Bool) (p:Nat×Nat):Option AV:=some (.dat (bD (ambB m1 m2 sk bot bs)))
theorem amb3 (m1 m2 sk bot b1:Bool):(prs 3).map (ambR 3 m1 m2 sk bot [b1])=(prs 3).map (ambW m1 m2 sk bot [b1]):=by
 cases m1
 ·cases m2
  ·cases sk
   ·cases bot
    ·cases b1 <;> kernel_rfl
    ·kernel_rfl
   ·kernel_rfl
  ·kernel_rfl
 ·kernel_rfl
theorem amb4 (m1 m2 sk bot b1 b2:Bool):(prs 4).map (ambR 4 m1 m2 sk bot [b1,b2])=(prs 4).map (ambW m1 m2 sk bot [b1,b2]):=by
 cases m1
 ·cases m2
  ·cases sk
   ·cases bot
    ·cases b1
     ·cases b2 <;> kernel_rfl
     ·kernel_rfl
    ·kernel_rfl
   ·kernel_rfl
  ·kernel_rfl
 ·kernel_rfl
theorem amb5 (m1 m2 sk bot b1 b2 b3:Bool):(prs 5).map (ambR 5 m1 m2 sk bot [b1,b2,b3])=(prs 5).map (ambW m1 m2 sk bot [b1,b2,b3]):=by
 cases m1
 ·cases m2
  ·cases sk
   ·cases bot
    ·cases b1
     ·cases b2
      ·cases b3 <;> kernel_rfl
      ·kernel_rfl
     ·kernel_rfl
    ·kernel_rfl
   ·kernel_rfl
  ·kernel_rfl
 ·kernel_rfl
end
section
noncomputable def botS (cs ds:List (List Nat)):Bool:=!undS cs ds&&(!undS ds cs&&(!Nat.beq cs.length ds.length||apart cs ds))
noncomputable def comS (cs ds:List (List Nat)):List (List Nat):=cond (undS cs ds) cs (cond (undS ds cs) ds (cond (Nat.beq cs.length ds.length&&!apart cs ds) (meets cs ds) cs))
structure Rows (css:List (List (List Nat))):Prop where
 n:css.length=3∨css.length=4∨css.length=5
 ok:∀ {i j:Nat} {ci cj:List (List Nat)},i≠j→css[i]?=some ci→css[j]?=some cj→Okp ci cj
noncomputable def rowN (css:List (List (List Nat))) (t:Nat):List (List Nat):=css.getD t []
section
variable {css:List (List (List Nat))} {cs ds ts es:List (List Nat)} {i j t n:Nat}
theorem rowN_at (h:t < css.length):css[t]?=some (rowN css t):=by
 unfold rowN;rw [getD_at (List.getElem?_eq_getElem h)];exact List.getElem?_eq_getElem h
theorem Rows.p (R:Rows css) (hi:i < css.length) (hj:j < css.length) (h:i≠j):Okp (rowN css i) (rowN css j):=R.ok h (rowN_at hi) (rowN_at hj)
theorem Rows.two (R:Rows css):1 < css.length:=by rcases R.n with e | e | e <;> (rw [e];decide)
theorem Rows.s (R:Rows css) (hi:i < css.length):SigP (rowN css i):=by
 by_cases q:i=0
 ·exact (R.p hi (j:=1) R.two (q ▸ Nat.zero_ne_one)).a
 ·exact (R.p hi (j:=0) (Nat.lt_of_succ_lt R.two) q).a
theorem com_e {P:List (List Nat)→Prop} (h1:P cs) (h2:P ds) (h3:cs.length=ds.length→apart cs ds=false→P (meets cs ds)):P (comS cs ds):=by
 unfold comS
 cases undS cs ds with
 | true=>exact h1
 | false=>cases undS ds cs with
  | true=>exact h2
  | false=>cases q:Nat.beq cs.length ds.length&&!apart cs ds with
   | false=>exact h1
   | true=>exact and_e q fun a b=>h3 (Nat.eq_of_beq_eq_true a) ((Bool.not_eq_true' _).mp b)
theorem meets_len (e:cs.length=ds.length):(meets cs ds).length=cs.length:=by unfold meets;rw [List.length_map,List.length_zip,← e,Nat.min_self]
theorem Okp.com (o:Okp cs ds) (o1:Okp cs ts) (o2:Okp ds ts):Okp (comS cs ds) ts:=com_e (P:=fun es=>Okp es ts) o1 o2 fun e ha=>⟨o.far e ha,o1.b,by rw [meets_len e];exact o1.l⟩
theorem Okp.comP (o:Okp cs ds):SigP (comS cs ds):=com_e o.a o.b fun e ha=>o.far e ha
theorem interD_com (ok:Okp cs ds):interD cs ds=pickB (botS cs ds) (sigK (comS cs ds)):=by
 have e:eqLots cs ds=true→undS cs ds=true:=fun q=>by rw [eqLots_eq q];exact undS_refl ok.b.l
 unfold interD botS comS farD
 cases h1:undS cs ds with
 | true=>cases eqLots cs ds <;> rfl
 | false =>
  have e:eqLots cs ds=false:=Bool.eq_false_iff.mpr fun q=>nft (h1.symm.trans (e q))
  rw [e]
  cases undS ds cs with
  | true=>rfl
  | false=>cases Nat.beq cs.length ds.length with
   | false=>rfl
   | true=>cases apart cs ds <;> rfl
noncomputable def ambD (css:List (List (List Nat))) (es:List (List Nat)):List DV:=css.map sigK++[.tup (es.map kd)]
theorem kd_dep {a:List Nat} (ha:a∈lotL):depD (kd a)≤4:=and_e (List.all_eq_true.mp kd_tks a ha) fun _ y=>Nat.le_of_ble_eq_true y
theorem ambD_tk (R:Rows css) (he:SigP es):∀ d∈ambD css es,Tk d:=fun d hd=>(List.mem_append.mp hd).elim (fun q=>by
  obtain ⟨c,hc,rfl⟩:=List.mem_map.mp q
  obtain ⟨i,hi⟩:=List.mem_iff_getElem?.mp hc
  have hl:=(List.getElem?_eq_some_iff.mp hi).1
  rw [rowN_at hl] at hi
  exact Option.some.inj hi ▸ (R.s hl).tk) (one_mem ⟨rfl,Nat.le_trans (Nat.succ_le_succ (tup_dep kd (fun _=>kd_dep) he.l)) (by decide)⟩ d)
theorem ambD_row (h:t < css.length):lsD (ambD css es) t=sigK (rowN css t):=getD_at (by unfold ambD;rw [List.getElem?_append_left (by rw [List.length_map];exact h),List.getElem?_map,rowN_at h];rfl)
theorem ambD_com:lsD (ambD css es) css.length=.tup (es.map kd):=getD_at (by unfold ambD;rw [List.getElem?_append_right (by rw [List.length_map];exact Nat.le_refl _),List.length_map,Nat.sub_self];rfl)
theorem toks_f {D:Nat→DV} {g:Nat→Nat} {f:List (List Nat)→DV} (hd:∀ {t},t < css.length→D (g t)=f (rowN css t)):subDL D ((List.range css.length).map fun t=>.opq (g t))=css.map f:=(subDL_map ..).trans (range_map fun {p q} e=>by
 have hl:=(List.getElem?_eq_some_iff.mp e).1
 rw [rowN_at hl] at e
 exact Option.some.inj e ▸ hd hl)
theorem toks_rows {D:Nat→DV} {f:List (List Nat)→DV} (hd:∀ {t},t < css.length→D t=f (rowN css t)):subDL D (toks css.length)=css.map f:=toks_f (g:=fun t=>t) hd
noncomputable def setB (css:List (List (List Nat))) (i j t:Nat):Bool:=undS (comS (rowN css i) (rowN css j)) (rowN css t)&&(msS (rowN css t) (rowN css i)&&msS (rowN css t) (rowN css j))
noncomputable def ambS (css:List (List (List Nat))) (i j:Nat):Bool:=ambB (msS (rowN css i) (rowN css j)) (msS (rowN css j) (rowN css i)) (undS (rowN css i) (rowN css j)&&undS (rowN css j) (rowN css i)) (botS (rowN css i) (rowN css j)) ((othN css.length i j).map (setB css i j))
theorem oth_mem (h:t∈othN n i j):t < n∧t≠i∧t≠j:=by
 obtain ⟨h1,h2⟩:=List.mem_filter.mp h
 refine ⟨List.mem_range.mp h1,fun q=>?_,fun q=>?_⟩
 ·rw [q,Nat.beq_refl] at h2;exact nft h2
 ·rw [q,Nat.beq_refl,Bool.or_true] at h2;exact nft h2
theorem oth_len:[3,4,5].all (fun n=>(prs n).all fun p=>Nat.beq (othN n p.1 p.2).length (n - 2))=true:=by decide +kernel
theorem prs_mem:(i,j)∈prs n↔i < j∧j < n:=by
 unfold prs
 rw [List.mem_flatMap]
 constructor
 ·rintro ⟨a,h1,h2⟩
  obtain ⟨b,h3,e⟩:=List.mem_map.mp h2
  obtain ⟨h4,h5⟩:=List.mem_filter.mp h3
  obtain ⟨rfl,rfl⟩:=Prod.mk.inj e
  exact ⟨Nat.le_of_ble_eq_true h5,List.mem_range.mp h4⟩
 ·rintro ⟨h1,h2⟩
  exact ⟨i,List.mem_range.mpr (Nat.lt_trans h1 h2),List.mem_map.mpr ⟨j,List.mem_filter.mpr ⟨List.mem_range.mpr h2,Nat.ble_eq_true_of_le h1⟩,rfl⟩⟩
theorem amb_all (hn:n=3∨n=4∨n=5) (m1 m2 sk bot:Bool) (bs:List Bool) (hb:bs.length=n - 2) (hp:(i,j)∈prs n):ambR n m1 m2 sk bot bs (i,j)=ambW m1 m2 sk bot bs (i,j):=by
 rcases hn with rfl | rfl | rfl
 ·obtain ⟨b1,rfl⟩:=len1 hb;exact map_eq (amb3 m1 m2 sk bot b1) hp
 ·obtain ⟨b1,b2,rfl⟩:=len2 hb;exact map_eq (amb4 m1 m2 sk bot b1 b2) hp
 ·obtain ⟨b1,b2,b3,rfl⟩:=len3 hb;exact map_eq (amb5 m1 m2 sk bot b1 b2 b3) hp
theorem zip_map {α β:Type} (f:α→β) (l:List α):List.zip l (l.map f)=l.map fun x=>(x,f x):=by
 induction l with
 | nil=>rfl
 | cons a r ih=>exact congrArg (List.cons (a,f a)) ih
variable {w:World} {h:Heap} {K:Frag} {φb:Nat→Option Addr}
theorem inter_all (E:Wd h K) (ok:Okp cs ds):FT w h K φb k_intersection 90 true [sigK cs,sigK ds] (pickB (botS cs ds) (sigK (comS cs ds))):=interD_com ok ▸ inter_t E ok
theorem amb_t (E:Wd h K) (R:Rows css) (hij:i < j) (hj:j < css.length):FT w h K φb k_are_ambiguous 92 true [.lst (css.map sigK),.int i,.int j] (bD (ambS css i j)):=by
 have hi:=Nat.lt_trans hij hj
 have o:=R.p hi hj (Nat.ne_of_lt hij)
 have tk:=ambD_tk R o.comP
 have hrow:∀ {t},t < css.length→lsD (ambD css (comS (rowN css i) (rowN css j))) t=sigK (rowN css t):=fun ht=>ambD_row ht
 have c:ConOK w h K φb (lsI (ambD css (comS (rowN css i) (rowN css j))) tk) (conT (ambC css.length i j (msS (rowN css i) (rowN css j)) (msS (rowN css j) (rowN css i)) (undS (rowN css i) (rowN css j)&&undS (rowN css j) (rowN css i)) (botS (rowN css i) (rowN css j)) ((othN css.length i j).map (setB css i j)))):=by
  refine conT_ok (cons_mem ⟨rfl,cons_mem ?_ (one_mem ?_)⟩ (cons_mem ⟨rfl,one_mem ?_⟩ (cons_mem ⟨rfl,one_mem ?_⟩ (one_mem ⟨rfl,?_⟩))))
  ·show FT w h K φb k_is_more_specific 44 true [lsD _ i,lsD _ j] _
   rw [hrow hi,hrow hj];exact ms_t E o
  ·show FT w h K φb k_is_more_specific 44 true [lsD _ j,lsD _ i] _
   rw [hrow hi,hrow hj];exact ms_t E o.symm
  ·show FT w h K φb k_same_kind 44 true [lsD _ i,lsD _ j] _
   rw [hrow hi,hrow hj];exact sk_t E o
  ·show FT w h K φb k_intersection 90 true [lsD _ i,lsD _ j] _
   rw [hrow hi,hrow hj]
   have r:=inter_all (w:=w) (φb:=φb) E o
   cases hb:botS (rowN css i) (rowN css j) with
   | true=>rw [hb] at r;exact r
   | false =>
    rw [hb] at r
    show FT w h K φb k_intersection 90 true _ (.tup [.str tupW,lsD _ css.length,.none])
    rw [ambD_com];exact r
  ·show ∀ x∈(List.zip (othN css.length i j) ((othN css.length i j).map (setB css i j))).map _,_
   rw [zip_map]
   intro x hx
   obtain ⟨y,hy,rfl⟩:=List.mem_map.mp hx
   obtain ⟨t,ht,rfl⟩:=List.mem_map.mp hy
   obtain ⟨t1,t2,t3⟩:=oth_mem ht
   show FT w h K φb k_is_settled_by 46 true [lsD _ t,lsD _ i,lsD _ j,.tup [.str tupW,lsD _ css.length,.none]] _
   rw [hrow t1,hrow hi,hrow hj,ambD_com]
   exact st_t E (o.com (R.p hi t1 fun q=>t2 q.symm) (R.p hj t1 fun q=>t3 q.symm)) (R.p t1 hi t2) (R.p t1 hj t3)
 have hp:(i,j)∈prs css.length:=prs_mem.mpr ⟨hij,hj⟩
 have hlen:((othN css.length i j).map (setB css i j)).length=css.length - 2:=by
  rw [List.length_map]
  have hn:css.length∈[3,4,5]:=by rcases R.n with e | e | e <;> (rw [e];decide)
  exact Nat.eq_of_beq_eq_true (List.all_eq_true.mp (List.all_eq_true.mp oth_len _ hn) _ hp)
 have r:=layerT (n:=100) (f:=k_are_ambiguous) (d:=92) (isK:=true) (ds:=[.lst (toks css.length),.int i,.int j]) (r:=bD (ambS css i j)) E c (amb_all R.n _ _ _ _ _ hlen hp)
 have e:subDL (lsD (ambD css (comS (rowN css i) (rowN css j)))) [.lst (toks css.length),.int i,.int j]=[.lst (css.map sigK),.int i,.int j]:=by
  show [DV.lst (subDL _ (toks css.length)),_,_]=_
  rw [toks_rows hrow]
 rw [e] at r
 exact r
end
end
section
section
variable {α β γ δ:Type}
theorem ob_s {o:Option α} {f:α→Option β} {a:α} {r:Option β} (h:o=some a) (k:f a=r):ob o f=r:=by rw [h];exact k
theorem ob2_s {o:Option (α×β)} {f:α→β→Option γ} {a:α} {b:β} {r:Option γ} (h:o=some (a,b)) (k:f a b=r):ob2 o f=r:=by rw [h];exact k
theorem ob3_s {o:Option (α×β×γ)} {f:α→β→γ→Option δ} {a:α} {b:β} {c:γ} {r:Option δ} (h:o=some (a,b,c)) (k:f a b c=r):ob3 o f=r:=by rw [h];exact k
theorem gb_s {b:Bool} {o r:Option α} (h:b=true) (k:o=r):gb b o=r:=by rw [h];exact k
theorem ob2_u {x r:Option γ} {o:Option (α×β)} {a:α} {b:β} (f:α→β→Option γ) (h:o=some (a,b)) (e:x=ob2 o f) (k:f a b=r):x=r:=e.trans (ob2_s h k)
theorem ob3_u {x r:Option δ} {o:Option (α×β×γ)} {a:α} {b:β} {c:γ} (f:α→β→γ→Option δ) (h:o=some (a,b,c)) (e:x=ob3 o f) (k:f a b c=r):x=r:=e.trans (ob3_s h k)
theorem ob_u {x r:Option β} {o:Option α} {a:α} (f:α→Option β) (h:o=some a) (e:x=ob o f) (k:f a=r):x=r:=e.trans (ob_s h k)
theorem gb_u {x r:Option α} {b:Bool} (o:Option α) (h:b=true) (e:x=gb b o) (k:o=r):x=r:=e.trans (gb_s h k)
end
section
variable {oq:OpqE} {I:ItN} {C:Cfg} {n:Nat} {fm fm1 fm2:Fm} {H H1 H2:Hp} {ex:Fm→MS→Hp→Option (Fl×Fm×Hp)} {s:MS} {r:List MS} {o:Option (Fl×Fm×Hp)} {v a b:AV} {e l rr x t it:MX} {p p' i:Nat} {vs out:List AV} {ds:List DV} {tt:Bool}
theorem exs_n (h1:ex fm s H=some (.next,fm1,H1)) (h2:exs ex fm1 r H1=o):exs ex fm (s::r) H=o:=ob3_u (fun f fm H=>flr f (exs ex fm r H) fun v=>some (.ret v,fm,H)) h1 rfl h2
theorem exs_r (h1:ex fm s H=some (.ret v,fm1,H1)):exs ex fm (s::r) H=some (.ret v,fm1,H1):=ob3_u (fun f fm H=>flr f (exs ex fm r H) fun v=>some (.ret v,fm,H)) h1 rfl rfl
theorem ex_ret (h:(ops I C n).ev fm e H=some (v,H1)):(ops I C (n+1)).ex fm (.ret e p) H=some (.ret v,fm,H1):=ops_ex (ob2_u (fun v H=>some (.ret v,fm,H)) h rfl rfl)
theorem ex_ifs {c:MX} {a b:List MS} (h:(ops I C n).cd fm c H=some (tt,H1)) (h2:exs (ops I C n).ex fm (cond tt a b) H1=o):(ops I C (n+1)).ex fm (.ifs c a b p) H=o:=ops_ex (ob2_u (fun t H=>exs (ops I C n).ex fm (cond t a b) H) h rfl h2)
theorem ex_for {body:List MS} (h:items I (ops I C n) fm t it H=some (vs,H1)) (h2:forIt (fun fm H=>exs (ops I C n).ex fm body H) t vs fm H1=o):(ops I C (n+1)).ex fm (.fors t it body p) H=o:=ops_ex (ob2_u (fun vs H=>forIt (fun fm H=>exs (ops I C n).ex fm body H) t vs fm H) h rfl h2)
theorem asgT_var {q:Nat} (hs:stores fm.sc i=true):asgT fm (.var i q) v=some {fm with vars:=putN fm.vars i v}:=by
 show alt (gb (stores fm.sc i) _) _=_
 rw [hs];rfl
theorem ex_asg {q:Nat} (h:(ops I C n).ev fm e H=some (v,H1)) (hs:stores fm.sc i=true):(ops I C (n+1)).ex fm (.asg (.var i q) e p') H=some (.next,{fm with vars:=putN fm.vars i v},H1):=ops_ex (ob2_u (fun v H=>gb (tupOK (.var i q) e) (ob (asgT fm (.var i q) v) fun fm=>some (.next,fm,H))) h rfl (gb_s rfl (ob_s (asgT_var hs) rfl)))
theorem bin_r {op:Operator} {R:Res} (h1:(ops I C n).ev fm l H=some (a,H1)) (h2:(ops I C n).ev fm rr H1=some (b,H2)) (h3:binV op H2 a b=some R):evRes I C (ops I C n) fm (.bin op l rr p) H=some (R,H2) :=
 ob2_u (fun a H=>ob2 ((ops I C n).ev fm rr H) fun b H=>ob (binV op H a b) fun r=>some (r,H)) h1 rfl (ob2_s h2 (ob_s h3 rfl))
theorem ev_bin {op:Operator} (h1:(ops I C n).ev fm l H=some (a,H1)) (h2:(ops I C n).ev fm rr H1=some (b,H2)) (h3:binV op H2 a b=some (.val v)):(ops I C (n+1)).ev fm (.bin op l rr p) H=some (v,H2):=ops_ev (ob2_u (putRes false) (bin_r h1 h2 h3) rfl rfl)
theorem put_l (h:allDat vs=some ds):putRes false (.newl vs) H=some (.dat (.lst ds),H):=ob_u (fun ds=>some (.dat (.lst ds),H)) h rfl rfl
theorem ev_binL {op:Operator} {x:List AV} (h1:(ops I C n).ev fm l H=some (a,H1)) (h2:(ops I C n).ev fm rr H1=some (b,H2)) (h3:binV op H2 a b=some (.newl x)) (h4:allDat x=some ds):(ops I C (n+1)).ev fm (.bin op l rr p) H=some (.dat (.lst ds),H2):=ops_ev (ob2_u (putRes false) (bin_r h1 h2 h3) rfl (put_l h4))
theorem comp_r {elt:MX} {gens:List MX} {sc:Sc} (h1:compV I (ops I C n) fm elt gens sc H=some (out,H1)):evRes I C (ops I C n) fm (.comp elt gens sc p) H=some (.newl out,H1):=ob2_u (fun vs H=>some (.newl vs,H)) h1 rfl rfl
theorem ev_comp {elt:MX} {gens:List MX} {sc:Sc} (h1:compV I (ops I C n) fm elt gens sc H=some (out,H1)) (h2:allDat out=some ds):(ops I C (n+1)).ev fm (.comp elt gens sc p) H=some (.dat (.lst ds),H1):=ops_ev (ob2_u (putRes false) (comp_r h1) rfl (put_l h2))
theorem ev_compM {elt:MX} {gens:List MX} {sc:Sc} (h1:compV I (ops I C n) fm elt gens sc H=some (out,H1)):(ops I C (n+1)).ev fm (.mk (.comp elt gens sc p)) H=some (.loc H1.length,H1++[.list out]):=ops_ev (ob2_u (putRes true) (comp_r h1) rfl rfl)
theorem comp_v {elt:MX} {ifs gs:List MX} {sc:Sc} (h0:(distN (sc.map (·.1))&&freeOK fm.sc sc)=true) (h1:items I (ops I C n) fm t it H=some (vs,H1)) (h2:compIt (ops I C n).cd (compGens I (ops I C n) elt gs) t ifs {sc:=sc,vars:=freeVars sc fm.vars,dep:=fm.dep} vs H1=some (out,H2)) (h3:out.length≤1000000):compV I (ops I C n) fm elt (.gen t it ifs::gs) sc H=some (out,H2) :=
 gb_u (ob2 (items I (ops I C n) fm t it H) fun vs H=>ob2 (compIt (ops I C n).cd (compGens I (ops I C n) elt gs) t ifs {sc:=sc,vars:=freeVars sc fm.vars,dep:=fm.dep} vs H) fun out H=>gb (le out.length 1000000) (some (out,H))) h0 rfl (ob2_s h1 (ob2_s h2 (gb_s (Nat.ble_eq_true_of_le h3) rfl)))
theorem comp_g {elt:MX} {ifs gs:List MX} {o:Option (List AV×Hp)} (h1:items I (ops I C n) fm t it H=some (vs,H1)) (h2:compIt (ops I C n).cd (compGens I (ops I C n) elt gs) t ifs fm vs H1=o):compGens I (ops I C n) elt (.gen t it ifs::gs) fm H=o:=ob2_u (fun vs H=>compIt (ops I C n).cd (compGens I (ops I C n) elt gs) t ifs fm vs H) h1 rfl h2
theorem comp_e {elt:MX} (h:(ops I C n).ev fm elt H=some (v,H1)):compGens I (ops I C n) elt [] fm H=some ([v],H1):=ob2_u (fun v H=>some ([v],H)) h rfl rfl
theorem cd_cmp {op:CmpOp} (h1:(ops I C n).ev fm l H=some (a,H1)) (h2:(ops I C n).ev fm rr H1=some (b,H2)) (h3:cmpOpV C.base op H2 a b=some tt):(ops I C (n+1)).cd fm (.cmp op l rr p) H=some (tt,H2):=ops_cd (ob2_u (fun a H=>ob2 ((ops I C n).ev fm rr H) fun b H=>ob (cmpOpV C.base op H a b) fun c=>some (c,H)) h1 rfl (ob2_s h2 (ob_s h3 rfl)))
theorem ev_cmp {op:CmpOp} (h1:(ops I C n).ev fm l H=some (a,H1)) (h2:(ops I C n).ev fm rr H1=some (b,H2)) (h3:cmpOpV C.base op H2 a b=some tt):(ops I C (n+1)).ev fm (.cmp op l rr p) H=some (.dat (.bool tt),H2):=ops_ev (ob2_u (fun a H=>ob2 ((ops I C n).ev fm rr H) fun b H=>ob (cmpOpV C.base op H a b) fun c=>some (.dat (.bool c),H)) h1 rfl (ob2_s h2 (ob_s h3 rfl)))
theorem cd_not (h:(ops I C n).cd fm x H=some (tt,H1)):(ops I C (n+1)).cd fm (.not x p) H=some (!tt,H1):=ops_cd (ob2_u (fun b H=>some (!b,H)) h rfl rfl)
theorem cd_bop {a:Bool} {xs:List MX} {o:Option (Bool×Hp)} (h:bopC (ops I C n) fm a xs H=o):(ops I C (n+1)).cd fm (.bop a xs p) H=o:=ops_cd (h)
theorem bopC_c {r:List MX} {o:Option (Bool×Hp)} {isA:Bool} {op:Ops} (h:op.cd fm x H=some (tt,H1)) (h2:tt=isA→bopC op fm isA r H1=o) (h3:tt≠isA→o=some (tt,H1)):bopC op fm isA (x::r) H=o:=ob2_u (fun b H=>cond (b==isA) (bopC op fm isA r H) (some (b,H))) h rfl (by
 cases tt <;> cases isA
 ·exact h2 rfl
 ·exact (h3 (by decide)).symm
 ·exact (h3 (by decide)).symm
 ·exact h2 rfl)
theorem bopC_n {isA:Bool} {op:Ops}:bopC op fm isA [] H=some (isA,H):=rfl
theorem bopC_and {l:List (MX×Bool)} {op:Ops} (h:∀ x∈l,op.cd fm x.1 H=some (x.2,H)):bopC op fm true (l.map (·.1)) H=some (l.all (·.2),H):=by
 induction l with
 | nil=>rfl
 | cons x r ih =>
  refine bopC_c (h x (List.mem_cons_self ..)) (fun e=>?_) fun e=>?_
  ·rw [ih fun y hy=>h y (List.mem_cons_of_mem _ hy),List.all_cons,e];rfl
  ·rw [List.all_cons,Bool.eq_false_iff.mpr e];rfl
theorem cds_1 {cd:Fm→MX→Hp→Option (Bool×Hp)} (h:cd fm x H=some (tt,H1)):cds cd fm [x] H=some (tt,H1):=ob2_u (fun b H=>cond b (some (true,H)) (some (false,H))) h rfl (by cases tt <;> rfl)
theorem compIt_flat {α:Type} {cd:Fm→MX→Hp→Option (Bool×Hp)} {rest:Fm→Hp→Option (List AV×Hp)} {ifs:List MX} {f:α→AV} {p:α→Bool} {g:α→List AV} (hn:newT fm t=true) {l:List α}:(∀ x∈l,∃ fm1,asgT fm t (f x)=some fm1∧cds cd fm1 ifs H=some (p x,H)∧(p x=true→rest fm1 H=some (g x,H)))→compIt cd rest t ifs fm (l.map f) H=some ((l.filter p).flatMap g,H):=by
 induction l with
 | nil=>exact fun _=>rfl
 | cons x r ih =>
  intro h
  obtain ⟨fm1,h1,h2,h3⟩:=h x (List.mem_cons_self ..)
  have ih:=ih fun y hy=>h y (List.mem_cons_of_mem _ hy)
  refine gb_u (ob (asgT fm t (f x)) fun fm1=>ob2 (cds cd fm1 ifs H) fun b H=>cond b (ob2 (rest fm1 H) fun xs H=>ob2 (compIt cd rest t ifs fm (r.map f) H) fun ys H=>some (xs++ys,H)) (compIt cd rest t ifs fm (r.map f) H)) hn rfl (ob_s h1 (ob2_s h2 ?_))
  cases hp:p x with
  | false=>rw [List.filter_cons,hp];exact ih
  | true=>rw [List.filter_cons,hp];exact ob2_u (fun xs H=>ob2 (compIt cd rest t ifs fm (r.map f) H) fun ys H=>some (xs++ys,H)) (h3 hp) rfl (ob2_s ih rfl)
theorem compIt_map {α:Type} {cd:Fm→MX→Hp→Option (Bool×Hp)} {rest:Fm→Hp→Option (List AV×Hp)} {ifs:List MX} {f:α→AV} {p:α→Bool} {g:α→AV} (hn:newT fm t=true) {l:List α} (h:∀ x∈l,∃ fm1,asgT fm t (f x)=some fm1∧cds cd fm1 ifs H=some (p x,H)∧(p x=true→rest fm1 H=some ([g x],H))):compIt cd rest t ifs fm (l.map f) H=some ((l.filter p).map g,H):=by
 rw [compIt_flat (g:=fun x=>[g x]) hn h,← List.map_eq_flatMap]
theorem forIt_all {α:Type} {exb:Fm→Hp→Option (Fl×Fm×Hp)} {f:α→AV} {p:α→Bool} (inv:Fm→Prop) {l:List α}:∀ {fm:Fm},inv fm→(∀ x∈l,∀ fm,inv fm→∃ fm1 fm2,asgT fm t (f x)=some fm1∧exb fm1 H=some (cond (p x) .next (.ret v),fm2,H)∧inv fm2)→∃ fm',inv fm'∧forIt exb t (l.map f) fm H=some (cond (l.all p) .next (.ret v),fm',H):=by
 induction l with
 | nil=>exact fun {fm} hi _=>⟨fm,hi,rfl⟩
 | cons x r ih =>
  intro fm hi h
  obtain ⟨fm1,fm2,h1,h2,h3⟩:=h x (List.mem_cons_self ..) fm hi
  rw [List.all_cons]
  cases hp:p x with
  | false=>rw [hp] at h2;exact ⟨fm2,h3,ob_u (fun fm=>ob3 (exb fm _) fun f fm H=>flr f (forIt exb t (r.map _) fm H) fun r=>some (.ret r,fm,H)) h1 rfl (ob3_s h2 rfl)⟩
  | true =>
   rw [hp] at h2
   obtain ⟨fm',i1,i2⟩:=ih h3 fun y hy=>h y (List.mem_cons_of_mem _ hy)
   exact ⟨fm',i1,ob_u (fun fm=>ob3 (exb fm _) fun f fm H=>flr f (forIt exb t (r.map _) fm H) fun r=>some (.ret r,fm,H)) h1 rfl (ob3_s h2 i2)⟩
theorem forIt_acc {α:Type} {exb:Fm→Hp→Option (Fl×Fm×Hp)} {f:α→AV} {g:α→List AV} {N:Nat} (St:List AV→Hp) (inv:Fm→Prop) {l:List α}:∀ {fm:Fm} {L:List AV},inv fm→L.length+(l.flatMap g).length≤N→(∀ x∈l,∀ fm L,inv fm→L.length+(g x).length≤N→∃ fm1 fm2,asgT fm t (f x)=some fm1∧exb fm1 (St L)=some (.next,fm2,St (L++g x))∧inv fm2)→∃ fm',inv fm'∧forIt exb t (l.map f) fm (St L)=some (.next,fm',St (L++l.flatMap g)):=by
 induction l with
 | nil=>exact fun {fm L} hi _ _=>⟨fm,hi,by rw [List.flatMap_nil,List.append_nil];rfl⟩
 | cons x r ih =>
  intro fm L hi hN h
  rw [List.flatMap_cons,List.length_append,← Nat.add_assoc] at hN
  obtain ⟨fm1,fm2,h1,h2,h3⟩:=h x (List.mem_cons_self ..) fm L hi (Nat.le_trans (Nat.le_add_right _ _) hN)
  obtain ⟨fm',i1,i2⟩:=ih (L:=L++g x) h3 (by rw [List.length_append];exact hN) fun y hy=>h y (List.mem_cons_of_mem _ hy)
  refine ⟨fm',i1,?_⟩
  rw [List.flatMap_cons,← List.append_assoc]
  exact ob_u (fun fm=>ob3 (exb fm _) fun f fm H=>flr f (forIt exb t (r.map _) fm H) fun r=>some (.ret r,fm,H)) h1 rfl (ob3_s h2 i2)
theorem range_nat (n:Nat):∀ a:Nat,upFrom (a:Int) n=(List.range' a n).map fun (k:Nat)=>AV.dat (.int (k:Int)):=by
 induction n with
 | zero=>exact fun a=>rfl
 | succ n ih=>exact fun a=>congrArg (List.cons (AV.dat (.int a))) (ih (a+1))
theorem rangeL_nat (a b:Nat):rangeL (a:Int) (b:Int)=(List.range' a (b - a)).map fun (k:Nat)=>AV.dat (.int (k:Int)):=by
 unfold rangeL
 rw [show ((b:Int) - (a:Int)).toNat=b - a by omega]
 exact range_nat _ _
theorem runF_r {f d:Nat} {fi:FnI} {bs:List (Nat×AV)} {v':AV} {fm':Fm} {H':Hp} (h1:C.fn f=some fi) (h2:bindP fi.ps fi.dfl vs=some bs) (h3:exs (ops itN C n).ex {sc:=fi.sc,vars:=bs,dep:=d} fi.body []=some (.ret v,fm',H')) (h4:frozen v H'=some v'):runF C n f d vs=some v' :=
 have e:runH C n f d vs []=some (v,H'):=ob_u (fun fi=>ob (bindP fi.ps fi.dfl vs) fun bs=>runB (ops itN C n) fi bs d []) h1 rfl (ob_s h2 (ob3_u (fun f _ H=>some (retV f,H)) h3 rfl rfl))
 ob2_u frozen e rfl h4
theorem evs_1 (h:(ops I C n).ev fm x H=some (v,H1)):evs (ops I C n).ev fm [x] H=some ([v],H1):=ob2_u (fun v H=>ob2 (some ([],H)) fun vs H=>some (v::vs,H)) h rfl rfl
theorem ev_meth {o:MX} {nm ap:Nat} {r:AV×Hp} (hp:(Nat.beq (ap / 1000 % 1000) (p / 1000000000)&&le [x].length 20&&noCall0 o)=true) (ho:(ops I C n).ev fm o H=some (a,H)) (hx:(ops I C n).ev fm x H=some (v,H)) (hO:objV C H a=none) (hb:okBase H a=true) (hmv:methV (C.cd nm) a [v] H=some r):(ops I C (n+1)).ev fm (.meth o nm [x] ap p) H=some r :=
 ops_ev (gb_u (ob2 ((ops I C n).ev fm o H) fun a H=>ob2 (evs (ops I C n).ev fm [x] H) fun vs H2=>Option.rec (gb (okBase H a) (methV (C.cd nm) a vs H2))
   (fun p=>ob (C.cl p.1) fun ci=>ob (lookN ci.meths nm) fun f=>gb (!(lookN p.2 nm).isSome) ((ops I C n).call fm.dep (.fn f) (a::vs) H2)) (objV C H a)) hp rfl (ob2_s ho (ob2_s (evs_1 hx) (by rw [hO];exact gb_u (methV (C.cd nm) a [v] H) hb rfl hmv))))
theorem ex_app {f pf nm ap k:Nat} {L:List AV} (hp:(Nat.beq (ap / 1000 % 1000) (p / 1000000000)&&le [x].length 20&&noCall0 (.var f pf))=true) (hm:listBeq (C.cd nm) wApp=true) (hv:(ops I C n).ev fm (.var f pf) H=some (.loc k,H)) (hx:(ops I C n).ev fm x H=some (v,H)) (hH:H[k]?=some (.list L)) (hL:L.length+1≤10000):(ops I C (n+2)).ex fm (.exp (.meth (.var f pf) nm [x] ap p) p') H=some (.next,fm,H.set k (.list (L++[v]))):=by
 have hl:lO H[k]?=some L:=by rw [hH];rfl
 have hb:okBase H (.loc k)=true:=by show (false||(lO H[k]?).isSome)=true;rw [hl];rfl
 have hmv:methV (C.cd nm) (.loc k) [v] H=some (.dat .none,H.set k (.list (L++[v]))):=ob_u (fun l=>methL (C.cd nm) k l [v] H) hl rfl (by
  unfold methL
  rw [hm]
  exact gb_u (some (.dat .none,H.set k (.list (L++[v])))) (Nat.ble_eq_true_of_le hL) rfl rfl)
 exact ops_ex (ob2_u (fun _ H=>some (.next,fm,H)) (ev_meth hp hv hx rfl hb hmv) rfl rfl)
theorem datL_flat {α:Type} (g:α→List DV) (l:List α):l.flatMap (fun x=>datL (g x))=datL (l.flatMap g):=(List.map_flatMap ..).symm
theorem datL_mapF {α:Type} (g:α→DV) (l:List α):datL (l.map g)=l.map fun x=>.dat (g x):=List.map_map ..
theorem datL_len (l:List DV):(datL l).length=l.length:=List.length_map ..
theorem allDat_datL (ds:List DV):allDat (datL ds)=some ds:=by
 induction ds with
 | nil=>rfl
 | cons d r ih=>exact ob_u (fun l=>some (d::l)) ih rfl rfl
theorem frozen_loc {k:Nat} {l:List DV} (h:H[k]?=some (.list (datL l))):frozen (.loc k) H=some (.dat (.lst l)):=by
 have hl:lO H[k]?=some (datL l):=by rw [h];rfl
 exact ob_u (fun l=>ob (allDat l) fun ds=>some (.dat (.lst ds))) hl rfl (ob_s (allDat_datL l) rfl)
theorem ev_adds {a b:List Nat} (h1:(ops I C n).ev fm l H=some (.dat (.str a),H)) (h2:(ops I C n).ev fm rr H=some (.dat (.str b),H)) (h3:a.length+b.length≤10000):(ops I C (n+1)).ev fm (.bin .Add l rr p) H=some (.dat (.str (a++b)),H):=by
 refine ev_bin h1 h2 ?_
 show alt (sz2 a b _) _=_
 rw [show sz2 a b (Res.val (.dat (.str (a++b))))=some (.val (.dat (.str (a++b)))) from gb_u _ (Nat.ble_eq_true_of_le h3) rfl rfl]
 rfl
theorem ev_join {o x:MX} {nm ap p:Nat} {sep:List Nat} {v:AV} {l:List AV} {ss:List (List Nat)} (hp:(Nat.beq (ap / 1000 % 1000) (p / 1000000000)&&le [x].length 20&&noCall0 o)=true) (hm:listBeq (C.cd nm) wJoin=true) (ho:(ops I C n).ev fm o H=some (.dat (.str sep),H)) (hx:(ops I C n).ev fm x H=some (v,H)) (hl:seqOf H v=some l) (hs:strs? l=some ss) (h1:(intercal sep ss).length≤10000) (h2:sep.length≤100):(ops I C (n+1)).ev fm (.meth o nm [x] ap p) H=some (.dat (.str (intercal sep ss)),H):=by
 have e:methT (C.cd nm) sep [v] H=some (.dat (.str (intercal sep ss)),H):=by
  show cond (listBeq (C.cd nm) wJoin) (ob (seqOf H v) fun l=>ob (strs? l) fun ss=>gb (le (intercal sep ss).length 10000&&le sep.length 100) (some ((.dat (.str (intercal sep ss)):AV),H))) _=_
  rw [hm]
  exact ob_s hl (ob_s hs (gb_s ((Bool.and_eq_true ..).mpr ⟨Nat.ble_eq_true_of_le h1,Nat.ble_eq_true_of_le h2⟩) rfl))
 have hmv:methV (C.cd nm) (.dat (.str sep)) [v] H=some (.dat (.str (intercal sep ss)),H):=by
  show alt (methT (C.cd nm) sep [v] H) _=_
  rw [e];rfl
 exact ev_meth hp ho hx rfl rfl hmv
end
noncomputable def mapB {α β:Type} (f:α→β) (l:List α):List β:=lrec [] (fun a _ q=>f a::q) l
theorem mapB_eq {α β:Type} (f:α→β) (l:List α):mapB f l=l.map f:=by
 induction l with
 | nil=>rfl
 | cons a l ih=>exact congrArg (List.cons (f a)) ih
theorem mem_at {α β:Type} {l:List α} {f g:α→β} (h:l.map f=mapB g l) {x:α} (hx:x∈l):f x=g x:=by
 rw [mapB_eq] at h;exact List.map_inj_left.mp h x hx
end
section
noncomputable def mS (l:List MS) (i:Nat):MS:=l.getD i (.pass 0)
noncomputable def bodyS (s:MS):List MS:=MS.casesOn s (fun _ _ _=>[]) (fun _ a _ _=>a) (fun _ _ b _=>b) (fun _ b _=>b) (fun _ _=>[]) (fun _ _=>[]) (fun _ _=>[]) (fun _=>[])
noncomputable def itS (s:MS):MX:=MS.casesOn s (fun _ e _=>e) (fun c _ _ _=>c) (fun _ it _ _=>it) (fun c _ _=>c) (fun e _=>e) (fun e _=>e) (fun e _=>e) (fun _=>.const .none 0)
noncomputable def argX (x:MX):MX:=MX.casesOn x (fun _ _=>x) (fun _ _=>x) (fun _ _=>x) (fun _ _ _=>x) (fun _ _ _ _=>x) (fun _ _=>x) (fun _ _=>x) (fun _ _ _ _=>x) (fun _ _ _=>x) (fun _ _=>x) (fun _ _ _=>x) (fun _ _ _ _=>x) (fun _ xs _=>xs.getD 0 x) (fun _ _ _ _ _ _=>x) (fun _ _ xs _ _=>xs.getD 0 x) (fun _ _ _=>x) (fun _ _ _=>x) (fun _ _ _ _ _ _=>x) (fun _ _ _ _=>x) (fun _ _ _=>x) (fun _=>x)
noncomputable def pairD (i j:Nat):DV:=.tup [.int i,.int j]
noncomputable def prD (b:Nat→Nat→Bool) (i j:Nat):List DV:=cond (b i j) [pairD i j] []
noncomputable def rowD (n:Nat) (b:Nat→Nat→Bool) (i:Nat):List DV:=(List.range' (i+1) (n - (i+1))).flatMap (prD b i)
noncomputable def pairD' (n:Nat) (b:Nat→Nat→Bool):List DV:=(List.range n).flatMap (rowD n b)
noncomputable def pairsC (n:Nat) (b:Nat→Nat→Bool):List LE:=[⟨k_are_ambiguous,92,true,(prs n).map fun p=>([.lst (toks n),.int p.1,.int p.2],bD (b p.1 p.2))⟩]
noncomputable def apF (n:Nat) (r:List (Nat×AV)):Fm:=⟨f_ambiguous_pairs.sc,(4,.rinst 4 0)::(145,.dat (.lst (toks n)))::(7,.loc 0)::r,94⟩
noncomputable abbrev iV (k:Nat):AV:=.dat (.int (k:Int))
noncomputable abbrev oT (es:List LE) (n:Nat):Ops:=@ops inE itN (cfg base1 (conT es)) n
noncomputable def apL:MS:=mS b_ambiguous_pairs 1
noncomputable def apM:MS:=mS (bodyS apL) 0
noncomputable def apIf:MS:=mS (bodyS apM) 0
noncomputable def apCall:MX:=itS apIf
noncomputable def apApp:MX:=argX (itS (mS (bodyS apIf) 0))
noncomputable def apIt:MX:=itS apM
section
variable (b:Nat→Nat→Bool) (L:List AV) (y:AV)
theorem ap_cd:∀ n∈[3,4,5],(prs n).map (fun p=>(oT (pairsC n b) 52).cd (apF n [(152,iV p.1),(153,iV p.2)]) apCall [.list L])=mapB (fun p=>some (b p.1 p.2,[.list L])) (prs n) :=
 cons_mem (by kernel_rfl) (cons_mem (by kernel_rfl) (one_mem (by kernel_rfl)))
theorem ap_x:∀ n∈[3,4,5],(prs n).map (fun p=>(oT (pairsC n b) 50).ev (apF n [(152,iV p.1),(153,iV p.2)]) apApp [.list L])=mapB (fun p=>some (.dat (pairD p.1 p.2),[.list L])) (prs n) :=
 cons_mem (by kernel_rfl) (cons_mem (by kernel_rfl) (one_mem (by kernel_rfl)))
theorem ap_it1:∀ n∈[3,4,5],(List.range n).map (fun i=>items itN (oT (pairsC n b) 53) (apF n [(152,iV i)]) (.var 153 592012592018) apIt [.list L])=mapB (fun i=>some ((List.range' (i+1) (n - (i+1))).map iV,[.list L])) (List.range n) :=
 cons_mem (by kernel_rfl) (cons_mem (by kernel_rfl) (one_mem (by kernel_rfl)))
theorem ap_it2:∀ n∈[3,4,5],(List.range n).map (fun i=>items itN (oT (pairsC n b) 53) (apF n [(152,iV i),(153,y)]) (.var 153 592012592018) apIt [.list L])=mapB (fun i=>some ((List.range' (i+1) (n - (i+1))).map iV,[.list L])) (List.range n) :=
 cons_mem (by kernel_rfl) (cons_mem (by kernel_rfl) (one_mem (by kernel_rfl)))
theorem ap_s1 (n:Nat):(oT (pairsC n b) 55).ex ⟨f_ambiguous_pairs.sc,[(4,.rinst 4 0),(145,.dat (.lst (toks n)))],94⟩ (mS b_ambiguous_pairs 0) []=some (.next,apF n [],[.list []]):=by kernel_rfl
theorem ap_it0:∀ n∈[3,4,5],items itN (oT (pairsC n b) 54) (apF n []) (.var 152 591008591013) (itS apL) [.list []]=some ((List.range n).map iV,[.list []]) :=
 cons_mem (by kernel_rfl) (cons_mem (by kernel_rfl) (one_mem (by kernel_rfl)))
theorem ap_ret (n:Nat) (H:Hp) (r:List (Nat×AV)):(oT (pairsC n b) 54).ev (apF n r) (.var 7 595011595016) H=some (.loc 0,H):=by kernel_rfl
end
theorem var_ev (b:Nat→Nat→Bool) (n:Nat) (L:List AV) {r:List (Nat×AV)}:(oT (pairsC n b) 50).ev (apF n r) (.var 7 594016594021) [.list L]=some (.loc 0,[.list L]):=by kernel_rfl
theorem flat_len {α β:Type} {g:α→List β} {m:Nat} (h:∀ x,(g x).length≤m) (l:List α):(l.flatMap g).length≤l.length * m:=by
 induction l with
 | nil=>exact Nat.zero_le _
 | cons a r ih=>rw [List.flatMap_cons,List.length_append,List.length_cons,Nat.succ_mul,Nat.add_comm];exact Nat.add_le_add ih (h a)
theorem row_len (n:Nat) (b:Nat→Nat→Bool) (i:Nat):(rowD n b i).length≤n:=by
 refine Nat.le_trans (flat_len (m:=1) (fun j=>?_) _) (by rw [List.length_range',Nat.mul_one];exact Nat.sub_le _ _)
 unfold prD
 cases b i j with
 | true=>exact Nat.le_refl _
 | false=>exact Nat.zero_le _
theorem pairs_run {n:Nat} (hn:n∈[3,4,5]) (b:Nat→Nat→Bool):runT inE (pairsC n b) 55 k_ambiguous_pairs 94 true [.lst (toks n)]=some (.dat (.lst (pairD' n b))):=by
 have hlen:(pairD' n b).length≤100:=Nat.le_trans (flat_len (row_len n b) _) (by
  rw [List.length_range]
  exact cons_mem (p:=fun n=>n * n≤100) (by decide) (cons_mem (by decide) (one_mem (by decide))) n hn)
 have inner:∀ i∈List.range n,∀ r L,(r=[(152,iV i)]∨∃ y,r=[(152,iV i),(153,y)])→L.length+(((List.range' (i+1) (n - (i+1))).flatMap fun j=>datL (prD b i j)):List AV).length≤10000 →
   ∃ fm',(∃ r,(r=[(152,iV i)]∨∃ y,r=[(152,iV i),(153,y)])∧fm'=apF n r)∧forIt (fun fm H=>exs (oT (pairsC n b) 53).ex fm (bodyS apM) H) (.var 153 592012592018) ((List.range' (i+1) (n - (i+1))).map iV) (apF n r) [.list L]=some (.next,fm',[.list (L++((List.range' (i+1) (n - (i+1))).flatMap fun j=>datL (prD b i j)))]):=by
  intro i hi r L hf hN
  refine forIt_acc (f:=iV) (fun L=>[.list L]) (fun fm=>∃ r,(r=[(152,iV i)]∨∃ y,r=[(152,iV i),(153,y)])∧fm=apF n r) ⟨r,hf,rfl⟩ hN fun j hj fm L hf hN=>⟨apF n [(152,iV i),(153,iV j)],apF n [(152,iV i),(153,iV j)],?_,?_,_,.inr ⟨_,rfl⟩,rfl⟩
  ·obtain ⟨r,h,rfl⟩:=hf
   rcases h with rfl | ⟨y,rfl⟩ <;> rfl
  ·have hp:(i,j)∈prs n:=by
    rw [List.mem_range'_1] at hj
    rw [List.mem_range] at hi
    exact prs_mem.mpr ⟨by omega,by omega⟩
   show exs (oT (pairsC n b) 53).ex _ [.ifs apCall [.exp (.meth (.var 7 594016594021) 14 [apApp] 594016594028 594016594045) 594016594045] [] 593012594045] _=_
   have z1:=mem_at (ap_cd b L n hn) hp
   have z2:=mem_at (ap_x b L n hn) hp
   dsimp only at z1 z2
   refine exs_n (ex_ifs z1 (o:=some (.next,apF n [(152,iV i),(153,iV j)],[.list (L++datL (prD b i j))])) ?_) rfl
   unfold prD at hN ⊢
   cases q:b i j with
   | false =>
    show some (Fl.next,_,[AO.list L])=some (Fl.next,_,[AO.list (L++[])])
    rw [List.append_nil]
   | true =>
    rw [q] at hN
    exact exs_n (ex_app (k:=0) rfl rfl (var_ev b n L) z2 rfl hN) rfl
 have outer:∃ fm',(∃ r,fm'=apF n r)∧forIt (fun fm H=>exs (oT (pairsC n b) 54).ex fm (bodyS apL) H) (.var 152 591008591013) ((List.range n).map iV) (apF n []) [.list []]=some (.next,fm',[.list ([]++((List.range n).flatMap fun i=>datL (rowD n b i)))]):=by
  have go:∀ {r r' i L},i∈List.range n→asgT (apF n r) (.var 152 591008591013) (iV i)=some (apF n r')→(r'=[(152,iV i)]∨∃ y,r'=[(152,iV i),(153,y)])→L.length+(datL (rowD n b i)).length≤10000 →
    ∃ fm1 fm2,asgT (apF n r) (.var 152 591008591013) (iV i)=some fm1∧exs (oT (pairsC n b) 54).ex fm1 (bodyS apL) [.list L]=some (.next,fm2,[.list (L++datL (rowD n b i))])∧∃ i r,(r=[]∨r=[(152,iV i)]∨∃ y,r=[(152,iV i),(153,y)])∧fm2=apF n r:=by
   intro r r' i L hi ha hf hN
   rw [show datL (rowD n b i)=(List.range' (i+1) (n - (i+1))).flatMap fun j=>datL (prD b i j) from (datL_flat _ _).symm] at hN ⊢
   obtain ⟨fm',⟨r2,h2,e2⟩,i2⟩:=inner i hi r' L hf hN
   have hit:items itN (oT (pairsC n b) 53) (apF n r') (.var 153 592012592018) apIt [.list L]=some ((List.range' (i+1) (n - (i+1))).map iV,[.list L]):=by
    rcases hf with rfl | ⟨y,rfl⟩
    ·exact mem_at (ap_it1 b L n hn) hi
    ·exact mem_at (ap_it2 b L y n hn) hi
   refine ⟨apF n r',fm',ha,?_,i,r2,.inr h2,e2⟩
   show exs (oT (pairsC n b) 54).ex _ [.fors (.var 153 592012592018) apIt (bodyS apM) 592008594045] _=_
   exact exs_n (ex_for hit i2) rfl
  obtain ⟨fm',⟨i,r,_,e⟩,h⟩:=forIt_acc (f:=iV) (g:=fun i=>datL (rowD n b i)) (N:=10000) (exb:=fun fm H=>exs (oT (pairsC n b) 54).ex fm (bodyS apL) H) (t:=.var 152 591008591013) (l:=List.range n) (fun L=>[.list L]) (fun fm=>∃ i r,(r=[]∨r=[(152,iV i)]∨∃ y,r=[(152,iV i),(153,y)])∧fm=apF n r) (fm:=apF n []) (L:=[]) ⟨0,[],.inl rfl,rfl⟩ (by
    rw [datL_flat,datL_len]
    exact Nat.le_trans (Nat.le_of_eq (Nat.zero_add _)) (Nat.le_trans hlen (by decide))) (fun i hi fm L hf hN=>by
   obtain ⟨k,r,h,rfl⟩:=hf
   rcases h with rfl | rfl | ⟨y,rfl⟩
   ·exact go hi (r':=[(152,iV i)]) rfl (.inl rfl) hN
   ·exact go hi (r':=[(152,iV i)]) rfl (.inl rfl) hN
   ·exact go hi (r':=[(152,iV i),(153,y)]) rfl (.inr ⟨y,rfl⟩) hN)
  exact ⟨fm',⟨r,e⟩,h⟩
 obtain ⟨fm',⟨r,rfl⟩,o2⟩:=outer
 rw [List.nil_append,datL_flat] at o2
 refine runF_r (fi:=f_ambiguous_pairs) (bs:=[(4,.rinst 4 0),(145,.dat (.lst (toks n)))]) (v:=.loc 0) (fm':=apF n r) (H':=[.list (datL (pairD' n b))]) (by kernel_rfl) (by kernel_rfl) ?_ (frozen_loc rfl)
 show exs (oT (pairsC n b) 55).ex _ [mS b_ambiguous_pairs 0,.fors (.var 152 591008591013) (itS apL) (bodyS apL) 591004594045,.ret (.var 7 595011595016) 595004595016] _=_
 exact exs_n (ap_s1 b n) (exs_n (ex_for (ap_it0 b n hn) o2) (exs_r (ex_ret (ap_ret b n _ r))))
end
section
section
variable {w:World} {h:Heap} {K:Frag} {φb:Nat→Option Addr} {css:List (List (List Nat))} {n:Nat}
theorem rows_tk (R:Rows css):∀ d∈css.map sigK,Tk d:=fun d hd=>ambD_tk R (R.s (i:=0) (Nat.lt_of_succ_lt R.two)) d (List.mem_append.mpr (.inl hd))
theorem lsD_row {t:Nat} (h:t < css.length):lsD (css.map sigK) t=sigK (rowN css t):=getD_at (by rw [List.getElem?_map,rowN_at h];rfl)
theorem Rows.mem (R:Rows css):css.length∈[3,4,5]:=by rcases R.n with e | e | e <;> (rw [e];decide)
theorem sub_app (D:Nat→DV) (x y:List DV):subDL D (x++y)=subDL D x++subDL D y:=by
 induction x with
 | nil=>rfl
 | cons a x ih=>exact congrArg (List.cons (subD D a)) ih
theorem sub_flat {α:Type} (D:Nat→DV) {g:α→List DV} (hg:∀ x,subDL D (g x)=g x) (l:List α):subDL D (l.flatMap g)=l.flatMap g:=by
 induction l with
 | nil=>rfl
 | cons a r ih=>rw [List.flatMap_cons,sub_app,hg,ih]
theorem pair_sub (D:Nat→DV) (b:Nat→Nat→Bool):subDL D (pairD' n b)=pairD' n b:=sub_flat D (fun i=>sub_flat D (fun j=>by unfold prD;cases b i j <;> rfl) _) _
theorem pairs_t (E:Wd h K) (R:Rows css):FT w h K φb k_ambiguous_pairs 94 true [.lst (css.map sigK)] (.lst (pairD' css.length (ambS css))):=by
 have tk:=rows_tk R
 have er:subDL (lsD (css.map sigK)) (toks css.length)=css.map sigK:=toks_rows lsD_row
 have c:ConOK w h K φb (lsI (css.map sigK) tk) (conT (pairsC css.length (ambS css))):=conT_ok (one_mem ⟨rfl,fun x hx=>by
  obtain ⟨⟨i,j⟩,hp,rfl⟩:=List.mem_map.mp hx
  obtain ⟨h1,h2⟩:=prs_mem.mp hp
  show FT w h K φb k_are_ambiguous 92 true [.lst (subDL (lsD (css.map sigK)) (toks css.length)),.int i,.int j] _
  rw [er]
  exact amb_t E R h1 h2⟩)
 have r:FT w h K φb k_ambiguous_pairs 94 true [.lst (subDL (lsD (css.map sigK)) (toks css.length))] (.lst (subDL (lsD (css.map sigK)) (pairD' css.length (ambS css)))):=layerT (ds:=[.lst (toks css.length)]) (r:=.lst (pairD' css.length (ambS css))) E c (pairs_run R.mem (ambS css))
 rwa [er,pair_sub] at r
end
noncomputable def uniW:List Nat:=[85,110,105,111,110,123]
noncomputable def tupT:List Nat:=[84,117,112,108,101,123]
noncomputable def comW:List Nat:=[44,32]
noncomputable def endW:List Nat:=[125]
noncomputable def txtL (l:List Nat):List Nat:=cond (Nat.beq l.length 1) (nmC (atN l 0)) (uniW++intercal comW (l.map nmC)++endW)
theorem kt_lot:lotL.map (fun l=>runT opq0.toOpqE [] 100 k_kind_text 20 false [kd l])=mapB (fun l=>some (.dat (.str (txtL l)))) lotL:=by kernel_rfl
theorem txtL_all:lotL.all (fun l=>Nat.ble (txtL l).length 40&&!memN (txtL l) 10)=true:=by decide +kernel
noncomputable def txtS (cs:List (List Nat)):List Nat:=tupT++intercal comW (cs.map txtL)++endW
noncomputable def ktC (s:Nat→List Nat) (k:Nat):List LE:=[⟨k_kind_text,20,false,(List.range k).map fun t=>([.opq t],.str (s t))⟩]
noncomputable def tokW (k:Nat):DV:=.tup [.str tupW,.tup (toks k),.none]
noncomputable def ktF (k:Nat) (r:List (Nat×AV)):Fm:=⟨f_kind_text.sc,(20,.dat (tokW k))::r,24⟩
noncomputable abbrev ktR:List (Nat×AV):=[(21,.dat (.str tupW))]
noncomputable def ktR2 (k:Nat) (s:Nat→List Nat):List (Nat×AV):=[(21,.dat (.str tupW)),(43,.dat (.lst ((List.range k).map fun t=>.str (s t))))]
noncomputable def ktIf:MS:=mS b_kind_text 2
theorem kt_1 (s:Nat→List Nat):∀ k∈[1,2,3],(oT (ktC s k) 50).ex (ktF k []) (mS b_kind_text 0) []=some (.next,ktF k ktR,[]):=cons_mem (by kernel_rfl) (cons_mem (by kernel_rfl) (one_mem (by kernel_rfl)))
theorem kt_2 (s:Nat→List Nat):∀ k∈[1,2,3],(oT (ktC s k) 50).ex (ktF k ktR) (mS b_kind_text 1) []=some (.next,ktF k ktR,[]):=cons_mem (by kernel_rfl) (cons_mem (by kernel_rfl) (one_mem (by kernel_rfl)))
theorem kt_3 (s:Nat→List Nat):∀ k∈[1,2,3],(oT (ktC s k) 49).cd (ktF k ktR) (itS ktIf) []=some (true,[]):=cons_mem (by kernel_rfl) (cons_mem (by kernel_rfl) (one_mem (by kernel_rfl)))
theorem kt_4 (s:Nat→List Nat):∀ k∈[1,2,3],(oT (ktC s k) 49).ex (ktF k ktR) (mS (bodyS ktIf) 0) []=some (.next,ktF k (ktR2 k s),[]):=cons_mem (by kernel_rfl) (cons_mem (by kernel_rfl) (one_mem (by kernel_rfl)))
theorem strs_map {α:Type} (s:α→List Nat) (l:List α):strs? (datL (l.map fun t=>.str (s t)))=some (l.map s):=by
 induction l with
 | nil=>rfl
 | cons a r ih=>exact ob_u (fun l=>some (s a::l)) ih rfl rfl
theorem inter_len (sep:List Nat) {N:Nat} {l:List (List Nat)} (h:∀ x∈l,x.length≤N):(intercal sep l).length≤l.length * (N+sep.length):=by
 induction l with
 | nil=>exact Nat.zero_le _
 | cons x r ih =>
  have h1:=h x (List.mem_cons_self ..)
  have h2:=ih fun z hz=>h z (List.mem_cons_of_mem _ hz)
  cases r with
  | nil=>rw [show intercal sep [x]=x from rfl,List.length_cons,List.length_nil,Nat.one_mul];exact Nat.le_trans h1 (Nat.le_add_right _ _)
  | cons y r =>
   show (x++sep++intercal sep (y::r)).length≤_
   rw [List.length_append,List.length_append,List.length_cons,Nat.succ_mul,Nat.add_comm]
   exact Nat.add_le_add h2 (Nat.add_le_add_right h1 _)
theorem com_len {l:List (List Nat)} (h:∀ x∈l,x.length≤40) (hl:l.length≤3):(intercal comW l).length≤126:=Nat.le_trans (inter_len comW h) (Nat.mul_le_mul_right 42 hl)
theorem k3 {k:Nat} (h:k∈[1,2,3]):k≤3:=cons_mem (p:=fun k=>k≤3) (by decide) (cons_mem (by decide) (one_mem (by decide))) k h
theorem kt_run (s:Nat→List Nat) (hs:∀ t,(s t).length≤40) {k:Nat} (hk:k∈[1,2,3]):runT inE (ktC s k) 50 k_kind_text 24 false [tokW k]=some (.dat (.str (tupT++intercal comW ((List.range k).map s)++endW))):=by
 have hl:(intercal comW ((List.range k).map s)).length≤126:=com_len (fun x hx=>by obtain ⟨t,_,rfl⟩:=List.mem_map.mp hx;exact hs t) (by rw [List.length_map,List.length_range];exact k3 hk)
 refine runF_r (fi:=f_kind_text) (bs:=[(20,.dat (tokW k))]) (v:=.dat (.str (tupT++intercal comW ((List.range k).map s)++endW))) (fm':=ktF k (ktR2 k s)) (H':=[]) (by kernel_rfl) (by kernel_rfl) ?_ rfl
 show exs (oT (ktC s k) 50).ex (ktF k []) (mS b_kind_text 0::mS b_kind_text 1::.ifs (itS ktIf) (mS (bodyS ktIf) 0::.ret (.bin .Add (.bin .Add _ (.meth _ _ [_] _ _) _) _ _) _::_) _ _::_) _=_
 refine exs_n (kt_1 s k hk) (exs_n (kt_2 s k hk) (exs_r (ex_ifs (kt_3 s k hk) (exs_n (kt_4 s k hk) (exs_r (ex_ret (ev_adds (ev_adds (a:=tupT) (b:=intercal comW ((List.range k).map s)) (by kernel_rfl) (ev_join (sep:=comW) (v:=.dat (.lst ((List.range k).map fun t=>.str (s t)))) (by kernel_rfl) (by kernel_rfl) (by kernel_rfl) (by kernel_rfl) rfl (strs_map s _) (Nat.le_trans hl (by decide)) (by decide)) ?_) (b:=endW) (by kernel_rfl) ?_)))))))
 ·exact Nat.le_trans (Nat.add_le_add_left hl _) (by decide)
 ·rw [List.length_append]
  exact Nat.le_trans (Nat.add_le_add_right (Nat.add_le_add_left hl _) _) (by decide)
end
section
theorem len123:nasL.all (fun n=>memN [1,2,3] n.length)=true:=by decide
theorem SigP.len {cs:List (List Nat)} (h:SigP cs):cs.length∈[1,2,3]:=by
 have z:=memN_mem (List.all_eq_true.mp len123 _ h.s)
 rwa [List.length_map] at z
noncomputable def lotAt (cs:List (List Nat)) (t:Nat):List Nat:=cs.getD t [0]
theorem lotAt_lot {cs:List (List Nat)} (h:Lots cs) (t:Nat):lotAt cs t∈lotL:=getD_al zero_lot h t
theorem map_lotAt {α:Type} (cs:List (List Nat)) (f:List Nat→α):(List.range cs.length).map (fun t=>f (lotAt cs t))=cs.map f:=range_map fun e=>congrArg f (getD_at e)
theorem kds_tk {cs:List (List Nat)} (h:Lots cs):∀ d∈cs.map kd,Tk d:=fun d hd=>by
 obtain ⟨c,hc,rfl⟩:=List.mem_map.mp hd
 exact lot_tk (h c hc)
theorem txt_at {l:List Nat} (h:l∈lotL):(txtL l).length≤40∧10∉txtL l:=and_e (List.all_eq_true.mp txtL_all l h) fun a b=>⟨Nat.le_of_ble_eq_true a,fun q=>by rw [mem_memN q] at b;exact nft b⟩
theorem txt_len {cs:List (List Nat)} (h:SigP cs):(txtS cs).length≤140:=by
 have hl:(intercal comW (cs.map txtL)).length≤126:=com_len (fun x hx=>by obtain ⟨c,hc,rfl⟩:=List.mem_map.mp hx;exact (txt_at (h.l c hc)).1) (by rw [List.length_map];exact k3 h.len)
 unfold txtS
 rw [List.length_append,List.length_append]
 exact Nat.le_trans (Nat.add_le_add_right (Nat.add_le_add_left hl _) _) (by decide)
theorem mem_intercal {sep:List Nat} {c:Nat} (hs:c∉sep) {l:List (List Nat)} (h:∀ x∈l,c∉x):c∉intercal sep l:=by
 induction l with
 | nil=>exact List.not_mem_nil
 | cons x r ih =>
  have h1:=h x (List.mem_cons_self ..)
  have h2:=ih fun z hz=>h z (List.mem_cons_of_mem _ hz)
  cases r with
  | nil=>exact h1
  | cons y r=>exact fun q=>(List.mem_append.mp (show c∈(x++sep)++intercal sep (y::r) from q)).elim (fun q=>(List.mem_append.mp q).elim h1 hs) h2
theorem txt_nl {cs:List (List Nat)} (h:SigP cs):10∉txtS cs:=fun q=>(List.mem_append.mp (show 10∈(tupT++intercal comW (cs.map txtL))++endW from q)).elim (fun q=>(List.mem_append.mp q).elim (by decide) (mem_intercal (by decide) fun x hx=>by
 obtain ⟨c,hc,rfl⟩:=List.mem_map.mp hx
 exact (txt_at (h.l c hc)).2)) (by decide)
section
variable {w:World} {h:Heap} {K:Frag} {φb:Nat→Option Addr}
theorem ktLot_t (E:Wd h K) {l:List Nat} (hl:l∈lotL):FT w h K φb k_kind_text 20 false [kd l] (.str (txtL l)):=by
 have r:FT w h K φb k_kind_text 20 false [subD .opq (kd l)] (.str (txtL l)):=layerT (I:=opq0) (ds:=[kd l]) (r:=.str (txtL l)) E noT_ok (mem_at kt_lot hl)
 rwa [sub_id] at r
theorem kt_t (E:Wd h K) {cs:List (List Nat)} (hc:SigP cs):FT w h K φb k_kind_text 24 false [sigK cs] (.str (txtS cs)):=by
 have tk:=kds_tk hc.l
 have c:ConOK w h K φb (lsI (cs.map kd) tk) (conT (ktC (fun t=>txtL (lotAt cs t)) cs.length)):=conT_ok (one_mem ⟨rfl,fun x hx=>by
  obtain ⟨t,ht,rfl⟩:=List.mem_map.mp hx
  have e:lsD (cs.map kd) t=kd (lotAt cs t):=by
   have:=List.getElem?_eq_getElem (List.mem_range.mp ht)
   unfold lotAt
   rw [getD_at this]
   exact getD_at (by rw [List.getElem?_map,this];rfl)
  show FT w h K φb k_kind_text 20 false [lsD (cs.map kd) t] _
  rw [e]
  exact ktLot_t E (lotAt_lot hc.l t)⟩)
 have r:FT w h K φb k_kind_text 24 false [subD (lsD (cs.map kd)) (tokW cs.length)] (.str (tupT++intercal comW ((List.range cs.length).map fun t=>txtL (lotAt cs t))++endW)):=layerT (ds:=[tokW cs.length]) E c (kt_run (fun t=>txtL (lotAt cs t)) (fun t=>(txt_at (lotAt_lot hc.l t)).1) hc.len)
 have e1:subD (lsD (cs.map kd)) (tokW cs.length)=sigK cs:=sub_tu (f:=id) fun e=>getD_at (by rw [List.getElem?_map];exact congrArg (Option.map kd) e)
 rwa [e1,map_lotAt cs txtL] at r
end
noncomputable def prL (n:Nat) (b:Nat→Nat→Bool):List (Nat×Nat):=(prs n).filter fun p=>b p.1 p.2
theorem prs_range:∀ n∈[3,4,5],∀ i∈List.range n,((List.range n).filter fun j=>Nat.blt i j)=List.range' (i+1) (n - (i+1)):=by decide +kernel
theorem prD_flat (b:Nat→Nat→Bool) (i:Nat) (k:List Nat):k.flatMap (prD b i)=((k.map fun j=>(i,j)).filter fun p=>b p.1 p.2).map fun p=>pairD p.1 p.2:=by
 induction k with
 | nil=>rfl
 | cons j k ih =>
  rw [List.flatMap_cons,ih,List.map_cons,List.filter_cons]
  unfold prD
  show _=List.map _ (if b i j=true then _ else _)
  cases b i j <;> rfl
theorem pairD_prL {n:Nat} (hn:n∈[3,4,5]) (b:Nat→Nat→Bool):pairD' n b=(prL n b).map fun p=>pairD p.1 p.2:=by
 have key:∀ l:List Nat,(∀ i∈l,i∈List.range n)→l.flatMap (rowD n b)=((l.flatMap fun i=>((List.range n).filter fun j=>Nat.blt i j).map fun j=>(i,j)).filter fun p=>b p.1 p.2).map fun p=>pairD p.1 p.2:=by
  intro l
  induction l with
  | nil=>exact fun _=>rfl
  | cons i r ih =>
   intro h
   rw [List.flatMap_cons,List.flatMap_cons,List.filter_append,List.map_append,ih fun x hx=>h x (List.mem_cons_of_mem _ hx),prs_range n hn i (h i (List.mem_cons_self ..))]
   exact congrArg (·++_) (prD_flat b i _)
 exact key _ fun i h=>h
theorem prs_len:∀ n∈[3,4,5],(prs n).length≤10:=by decide +kernel
theorem prL_len {n:Nat} (hn:n∈[3,4,5]) (b:Nat→Nat→Bool):(prL n b).length≤10:=Nat.le_trans (List.length_filter_le _ _) (prs_len n hn)
end
section
noncomputable def binP (x:MX):MX×MX:=MX.casesOn x (fun _ _=>(x,x)) (fun _ _=>(x,x)) (fun _ _=>(x,x)) (fun _ _ _=>(x,x)) (fun _ l r _=>(l,r)) (fun _ _=>(x,x)) (fun _ _=>(x,x)) (fun _ _ _ _=>(x,x)) (fun _ _ _=>(x,x)) (fun _ _=>(x,x)) (fun _ _ _=>(x,x)) (fun _ _ _ _=>(x,x)) (fun _ _ _=>(x,x)) (fun _ _ _ _ _ _=>(x,x)) (fun _ _ _ _ _=>(x,x)) (fun _ _ _=>(x,x)) (fun _ _ _=>(x,x)) (fun _ _ _ _ _ _=>(x,x)) (fun _ _ _ _=>(x,x)) (fun _ _ _=>(x,x)) (fun _=>(x,x))
noncomputable def cN (p:Nat×Nat):Nat:=10+5 * p.1+p.2
noncomputable def atC (n:Nat) (ps:List DV) (bt:Nat→Nat→Bool) (s:Nat→List Nat):List LE:=[⟨k_ambiguous_pairs,94,true,[([.lst (toks n)],.lst ps)]⟩,
 ⟨k_intersection,90,true,(prs n).map fun p=>([.opq p.1,.opq p.2],cond (bt p.1 p.2) botD (.opq (cN p)))⟩,
 ⟨k_kind_text,24,false,((List.range n).map fun t=>([.opq t],.str (s t)))++(prs n).map fun p=>([.opq (cN p)],.str (s (cN p)))⟩]
noncomputable def upd (bt:Nat→Nat→Bool) (i j:Nat):Nat→Nat→Bool:=fun a c=>cond (Nat.beq a i&&Nat.beq c j) false (bt a c)
theorem upd_eq {bt:Nat→Nat→Bool} {i j:Nat} (h:bt i j=false):upd bt i j=bt:=by
 funext a c
 unfold upd
 cases q:Nat.beq a i&&Nat.beq c j with
 | true=>exact and_e q fun q1 q2=>by rw [Nat.eq_of_beq_eq_true q1,Nat.eq_of_beq_eq_true q2,h];rfl
 | false=>rfl
noncomputable def atF (n:Nat) (r:List (Nat×AV)):Fm:=⟨f_ambiguity_text.sc,(4,.rinst 4 0)::(145,.dat (.lst (toks n)))::(58,.loc 0)::r,96⟩
noncomputable def atR (x y z:AV):List (Nat×AV):=[(152,x),(153,y),(151,z)]
noncomputable def sV (l:List Nat):AV:=.dat (.str l)
noncomputable def atL:MS:=mS b_ambiguity_text 1
noncomputable def atA:MS:=mS (bodyS atL) 0
noncomputable def atE4:MX:=argX (itS (mS (bodyS atL) 1))
noncomputable def atE3:MX:=(binP atE4).1
noncomputable def atE2:MX:=(binP atE3).1
noncomputable def atE1:MX:=(binP atE2).1
noncomputable def atT:MX:=.tup [(.var 152 603008603013),(.var 153 603015603021)] 0 603008603021
noncomputable def andW:List Nat:=[32,97,110,100,32]
noncomputable def bothW:List Nat:=[32,98,111,116,104,32,116,97,107,101,32,105,110,32]
section
variable (ps:List DV) (bt:Nat→Nat→Bool) (s:Nat→List Nat) (L:List AV) (z:AV)
theorem at_1 (n:Nat):(oT (atC n ps bt s) 55).ex ⟨f_ambiguity_text.sc,[(4,.rinst 4 0),(145,.dat (.lst (toks n)))],96⟩ (mS b_ambiguity_text 0) []=some (.next,atF n [],[.list []]):=by kernel_rfl
theorem at_it:∀ n∈[3,4,5],items itN (oT (atC n ps bt s) 54) (atF n []) atT (itS atL) [.list []]=some (datL ps,[.list []]) :=
 cons_mem (by kernel_rfl) (cons_mem (by kernel_rfl) (one_mem (by kernel_rfl)))
theorem at_a1:∀ n∈[3,4,5],(prs n).map (fun p=>(oT (atC n ps (upd bt p.1 p.2) s) 54).ex (atF n [(152,iV p.1),(153,iV p.2)]) atA [.list L])=mapB (fun p=>some (.next,atF n (atR (iV p.1) (iV p.2) (sV (s (cN p)))),[.list L])) (prs n) :=
 cons_mem (by kernel_rfl) (cons_mem (by kernel_rfl) (one_mem (by kernel_rfl)))
theorem at_a2:∀ n∈[3,4,5],(prs n).map (fun p=>(oT (atC n ps (upd bt p.1 p.2) s) 54).ex (atF n (atR (iV p.1) (iV p.2) z)) atA [.list L])=mapB (fun p=>some (.next,atF n (atR (iV p.1) (iV p.2) (sV (s (cN p)))),[.list L])) (prs n) :=
 cons_mem (by kernel_rfl) (cons_mem (by kernel_rfl) (one_mem (by kernel_rfl)))
theorem at_x0:∀ n∈[3,4,5],(prs n).map (fun p=>(oT (atC n ps bt s) 48).ev (atF n (atR (iV p.1) (iV p.2) z)) (binP atE1).1 [.list L])=mapB (fun p=>some (sV (s p.1),[.list L])) (prs n) :=
 cons_mem (by kernel_rfl) (cons_mem (by kernel_rfl) (one_mem (by kernel_rfl)))
theorem at_x2:∀ n∈[3,4,5],(prs n).map (fun p=>(oT (atC n ps bt s) 49).ev (atF n (atR (iV p.1) (iV p.2) z)) (binP atE2).2 [.list L])=mapB (fun p=>some (sV (s p.2),[.list L])) (prs n) :=
 cons_mem (by kernel_rfl) (cons_mem (by kernel_rfl) (one_mem (by kernel_rfl)))
variable (n:Nat) (x y:AV)
theorem at_x1:(oT (atC n ps bt s) 48).ev (atF n (atR x y z)) (binP atE1).2 [.list L]=some (sV andW,[.list L]):=by kernel_rfl
theorem at_x3:(oT (atC n ps bt s) 50).ev (atF n (atR x y z)) (binP atE3).2 [.list L]=some (sV bothW,[.list L]):=by kernel_rfl
theorem at_x4:(oT (atC n ps bt s) 51).ev (atF n (atR x y z)) (binP atE4).2 [.list L]=some (z,[.list L]):=by kernel_rfl
theorem at_r {r:List (Nat×AV)}:(oT (atC n ps bt s) 52).ev (atF n r) (.var 58 605008605012) [.list L]=some (.loc 0,[.list L]):=by kernel_rfl
theorem at_sep (fm:Fm) (H:Hp):(oT (atC n ps bt s) 53).ev fm (.const (.str 164) 606011606015) H=some (sV [10],H):=by kernel_rfl
theorem at_rows (H:Hp) (r:List (Nat×AV)):(oT (atC n ps bt s) 53).ev (atF n r) (.var 58 606021606025) H=some (.loc 0,H):=by kernel_rfl
end
noncomputable def textP (s:Nat→List Nat) (p:Nat×Nat):List Nat:=(((s p.1++andW)++s p.2)++bothW)++s (cN p)
theorem app_le {a b:List Nat} {m k:Nat} (h1:a.length≤m) (h2:b.length≤k):(a++b).length≤m+k:=by rw [List.length_append];exact Nat.add_le_add h1 h2
theorem textP_len {s:Nat→List Nat} (hs:∀ t,(s t).length≤140) (p:Nat×Nat):(textP s p).length≤439:=app_le (app_le (app_le (app_le (hs p.1) (show andW.length≤5 from Nat.le_refl 5)) (hs p.2)) (show bothW.length≤14 from Nat.le_refl 14)) (hs (cN p))
theorem flat_one {α β:Type} (f:α→β) (l:List α):(l.flatMap fun p=>[f p])=l.map f:=List.map_eq_flatMap.symm
theorem text_run {n:Nat} (hn:n∈[3,4,5]) (b bt:Nat→Nat→Bool) (s:Nat→List Nat) (hs:∀ t,(s t).length≤140) (hb:∀ i j,b i j=true→bt i j=false):runT inE (atC n (pairD' n b) bt s) 55 k_ambiguity_text 96 true [.lst (toks n)]=some (.dat (.str (intercal [10] ((prL n b).map (textP s))))):=by
 have hlen:=prL_len hn b
 have loop:∃ fm',(∃ r,(r=[]∨∃ x y z,r=atR x y z)∧fm'=atF n r)∧forIt (fun fm H=>exs (oT (atC n (pairD' n b) bt s) 54).ex fm (bodyS atL) H) atT ((prL n b).map fun p=>.dat (pairD p.1 p.2)) (atF n []) [.list []]=some (.next,fm',[.list ([]++(prL n b).flatMap fun p=>[sV (textP s p)])]):=by
  refine forIt_acc (f:=fun p:Nat×Nat=>AV.dat (pairD p.1 p.2)) (N:=10000) (fun L=>[.list L]) (fun fm=>∃ r,(r=[]∨∃ x y z,r=atR x y z)∧fm=atF n r) ⟨[],.inl rfl,rfl⟩ ?_ fun p hp fm L hf hN=>?_
  ·rw [flat_one,List.length_map]
   exact Nat.le_trans (Nat.le_of_eq (Nat.zero_add _)) (Nat.le_trans hlen (by decide))
  ·obtain ⟨hp1,hp2⟩:=List.mem_filter.mp hp
   have hu:upd bt p.1 p.2=bt:=upd_eq (hb _ _ hp2)
   have z0:=fun z=>mem_at (at_x0 (pairD' n b) bt s L z n hn) hp1
   have z2:=fun z=>mem_at (at_x2 (pairD' n b) bt s L z n hn) hp1
   have fin:∀ {fm1},(oT (atC n (pairD' n b) bt s) 54).ex fm1 atA [.list L]=some (.next,atF n (atR (iV p.1) (iV p.2) (sV (s (cN p)))),[.list L])→exs (oT (atC n (pairD' n b) bt s) 54).ex fm1 (bodyS atL) [.list L]=some (.next,atF n (atR (iV p.1) (iV p.2) (sV (s (cN p)))),[.list (L++[sV (textP s p)])]):=by
    intro fm1 h1
    show exs (oT (atC n (pairD' n b) bt s) 54).ex fm1 [atA,.exp (.meth (.var 58 605008605012) 14 [.bin .Add (.bin .Add (.bin .Add (.bin .Add (binP atE1).1 (binP atE1).2 605020605052) (binP atE2).2 605020605078) (binP atE3).2 605020605097) (binP atE4).2 605020605106] 605008605019 605008605107) 605008605107] _=_
    have w1:=app_le (hs p.1) (show andW.length≤5 from Nat.le_refl 5)
    have w2:=app_le w1 (hs p.2)
    have w3:=app_le w2 (show bothW.length≤14 from Nat.le_refl 14)
    refine exs_n h1 (exs_n (ex_app (k:=0) (v:=sV (textP s p)) (by kernel_rfl) (by kernel_rfl) (at_r _ _ _ _ _) (ev_adds (ev_adds (ev_adds (ev_adds (z0 _) (at_x1 _ _ _ _ _ _ _ _) ?_) (z2 _) ?_) (at_x3 _ _ _ _ _ _ _ _) ?_) (at_x4 _ _ _ _ _ _ _ _) ?_) rfl hN) rfl)
    ·exact Nat.le_trans (Nat.add_le_add (hs p.1) (Nat.le_refl 5)) (by decide)
    ·exact Nat.le_trans (Nat.add_le_add w1 (hs p.2)) (by decide)
    ·exact Nat.le_trans (Nat.add_le_add w2 (Nat.le_refl 14)) (by decide)
    ·exact Nat.le_trans (Nat.add_le_add w3 (hs (cN p))) (by decide)
   obtain ⟨r,h,rfl⟩:=hf
   rcases h with rfl | ⟨x,y,z,rfl⟩
   ·have z1:=mem_at (at_a1 (pairD' n b) bt s L n hn) hp1
    rw [hu] at z1
    exact ⟨atF n [(152,iV p.1),(153,iV p.2)],_,rfl,fin z1,_,.inr ⟨_,_,_,rfl⟩,rfl⟩
   ·have z1:=mem_at (at_a2 (pairD' n b) bt s L z n hn) hp1
    rw [hu] at z1
    exact ⟨atF n (atR (iV p.1) (iV p.2) z),_,rfl,fin z1,_,.inr ⟨_,_,_,rfl⟩,rfl⟩
 obtain ⟨fm',⟨r,_,rfl⟩,o2⟩:=loop
 rw [List.nil_append,flat_one,show ((prL n b).map fun p=>sV (textP s p))=datL ((prL n b).map fun p=>.str (textP s p)) from (datL_mapF _ _).symm,show ((prL n b).map fun p=>AV.dat (pairD p.1 p.2))=datL (pairD' n b) by rw [pairD_prL hn,datL_mapF]] at o2
 refine runF_r (fi:=f_ambiguity_text) (bs:=[(4,.rinst 4 0),(145,.dat (.lst (toks n)))]) (v:=.dat (.str (intercal [10] ((prL n b).map (textP s))))) (fm':=atF n r) (H':=[.list (datL ((prL n b).map fun p=>.str (textP s p)))]) (by kernel_rfl) (by kernel_rfl) ?_ rfl
 show exs (oT (atC n (pairD' n b) bt s) 55).ex _ [mS b_ambiguity_text 0,.fors atT (itS atL) (bodyS atL) _,.ret (.meth (.const (.str 164) 606011606015) _ [.var 58 606021606025] _ _) _] _=_
 refine exs_n (at_1 _ _ _ _) (exs_n (ex_for (at_it _ _ _ n hn) o2) (exs_r (ex_ret (ev_join (v:=.loc 0) (by kernel_rfl) (by kernel_rfl) (at_sep _ _ _ _ _ _) (at_rows _ _ _ _ _ _) rfl (strs_map _ _) ?_ (by decide)))))
 refine Nat.le_trans (inter_len [10] (N:=439) fun x hx=>?_) ?_
 ·obtain ⟨p,_,rfl⟩:=List.mem_map.mp hx;exact textP_len hs p
 ·rw [List.length_map]
  exact Nat.le_trans (Nat.mul_le_mul_right 440 hlen) (by decide)
end
section
open PySem.Builtin PySem.Builtin.Str
@[reducible] noncomputable def fnI (D:Nat→DV) (h:∀ t,Tk (D t)):Opq:={toOpqE:=inE,D:=D,nn:=fun t=>(h t).1,dep:=fun t=>(h t).2,eqk:=fun e=>nos e}
theorem meets_lots {cs ds:List (List Nat)} (hc:Lots cs) (hd:Lots ds) (ha:apart cs ds=false):Lots (meets cs ds):=fun l hx=>by
 obtain ⟨⟨a,b⟩,hm,rfl⟩:=List.mem_map.mp hx
 have hz:=List.of_mem_zip hm
 exact meetL_lot (hc a hz.1) (hd b hz.2) (Bool.eq_false_iff.mpr fun y=>nft (ha.symm.trans (List.any_eq_true.mpr ⟨(a,b),hm,y⟩)))
noncomputable def atS (css:List (List (List Nat))) (t:Nat):List (List Nat):=cond (Nat.blt t 10) (rowN css t) (comS (rowN css ((t - 10) / 5)) (rowN css ((t - 10) % 5)))
section
variable {css:List (List (List Nat))}
theorem Rows.lots (R:Rows css) (t:Nat):Lots (rowN css t):=by
 by_cases q:t < css.length
 ·exact (R.s q).l
 ·unfold rowN
  rw [List.getD_eq_getElem?_getD,List.getElem?_eq_none (Nat.le_of_not_lt q)]
  exact fun c h=>absurd h List.not_mem_nil
theorem atS_lots (R:Rows css) (t:Nat):Lots (atS css t):=by
 unfold atS
 cases Nat.blt t 10 with
 | true=>exact R.lots _
 | false=>exact com_e (P:=Lots) (R.lots _) (R.lots _) fun _ ha=>meets_lots (R.lots _) (R.lots _) ha
theorem Rows.le (R:Rows css):css.length≤5:=by rcases R.n with e | e | e <;> (rw [e];decide)
theorem atS_row (R:Rows css) {t:Nat} (h:t < css.length):atS css t=rowN css t:=by
 unfold atS;rw [show Nat.blt t 10=true from Nat.ble_eq_true_of_le (Nat.le_trans h (Nat.le_trans R.le (by decide)))];rfl
theorem atS_com (R:Rows css) {p:Nat×Nat} (h:p∈prs css.length):atS css (cN p)=comS (rowN css p.1) (rowN css p.2):=by
 obtain ⟨i,j⟩:=p
 obtain ⟨h1,h2⟩:=prs_mem.mp h
 have hj:j < 5:=Nat.lt_of_lt_of_le h2 R.le
 unfold atS cN
 have hb:Nat.blt (10+5 * i+j) 10=false:=Bool.eq_false_iff.mpr fun e=>by
  have:=Nat.le_of_ble_eq_true e
  omega
 have e0:10+5 * i+j - 10=5 * i+j:=by rw [Nat.add_assoc,Nat.add_sub_cancel_left]
 dsimp only
 rw [hb,e0,Nat.mul_add_div (by decide),Nat.div_eq_of_lt hj,Nat.add_zero,Nat.mul_add_mod,Nat.mod_eq_of_lt hj];rfl
noncomputable def atSt (css:List (List (List Nat))) (t:Nat):List Nat:=(txtS (atS css t)).take 140
theorem atSt_ok {t:Nat} (h:SigP (atS css t)):atSt css t=txtS (atS css t):=List.take_of_length_le (txt_len h)
noncomputable def textS (css:List (List (List Nat))):List Nat:=intercal [10] ((prL css.length (ambS css)).map (textP (atSt css)))
theorem amb_bot {i j:Nat} (h:ambS css i j=true):botS (rowN css i) (rowN css j)=false:=Bool.eq_false_iff.mpr fun e=>by
 unfold ambS ambB at h
 rw [e,Bool.true_or,Bool.or_true,Bool.or_true,Bool.or_true] at h
 exact nft h
theorem Rows.pr (R:Rows css) {p:Nat×Nat} (hp:p∈prs css.length):(p.1 < css.length∧p.2 < css.length)∧Okp (rowN css p.1) (rowN css p.2):=by
 obtain ⟨h1,h2⟩:=prs_mem.mp (show (p.1,p.2)∈_ from hp)
 exact ⟨⟨Nat.lt_trans h1 h2,h2⟩,R.p (Nat.lt_trans h1 h2) h2 (Nat.ne_of_lt h1)⟩
theorem atS_sig (R:Rows css) {t:Nat} (h:t < css.length):SigP (atS css t):=atS_row R h ▸ R.s h
theorem atS_sigC (R:Rows css) {p:Nat×Nat} (h:p∈prs css.length):SigP (atS css (cN p)):=atS_com R h ▸ (R.pr h).2.comP
variable {w:World} {h:Heap} {K:Frag} {φb:Nat→Option Addr}
theorem text_t (E:Wd h K) (R:Rows css):FT w h K φb k_ambiguity_text 96 true [.lst (css.map sigK)] (.str (textS css)):=by
 have tk:∀ t,Tk (sigK (atS css t)):=fun t=>sig_tk (atS_lots R t)
 have er:subDL (fun t=>sigK (atS css t)) (toks css.length)=css.map sigK:=toks_rows fun ht=>congrArg sigK (atS_row R ht)
 have kt:∀ {t},SigP (atS css t)→FT w h K φb k_kind_text 24 false [sigK (atS css t)] (.str (atSt css t)):=fun hs=>by rw [atSt_ok hs];exact kt_t E hs
 have c:ConOK w h K φb (fnI _ tk) (conT (atC css.length (pairD' css.length (ambS css)) (fun i j=>botS (rowN css i) (rowN css j)) (atSt css))):=by
  refine conT_ok (cons_mem ⟨rfl,one_mem ?_⟩ (cons_mem ⟨rfl,fun x hx=>?_⟩ (one_mem ⟨rfl,fun x hx=>?_⟩)))
  ·show FT w h K φb k_ambiguous_pairs 94 true [.lst (subDL (fun t=>sigK (atS css t)) (toks css.length))] (.lst (subDL (fun t=>sigK (atS css t)) (pairD' css.length (ambS css))))
   rw [er,pair_sub]
   exact pairs_t E R
  ·obtain ⟨p,hp,rfl⟩:=List.mem_map.mp hx
   obtain ⟨⟨h1,h2⟩,o⟩:=R.pr hp
   show FT w h K φb k_intersection 90 true [sigK (atS css p.1),sigK (atS css p.2)] (subD (fun t=>sigK (atS css t)) (cond (botS (rowN css p.1) (rowN css p.2)) botD (.opq (cN p))))
   rw [atS_row R h1,atS_row R h2]
   have r:=inter_all (w:=w) (φb:=φb) E o
   cases hb:botS (rowN css p.1) (rowN css p.2) with
   | true=>rw [hb] at r;exact r
   | false =>
    rw [hb] at r
    show FT w h K φb k_intersection 90 true _ (sigK (atS css (cN p)))
    rw [atS_com R hp];exact r
  ·rcases List.mem_append.mp hx with q | q
   ·obtain ⟨t,ht,rfl⟩:=List.mem_map.mp q
    exact kt (atS_sig R (List.mem_range.mp ht))
   ·obtain ⟨p,hp,rfl⟩:=List.mem_map.mp q
    exact kt (atS_sigC R hp)
 have r:FT w h K φb k_ambiguity_text 96 true [.lst (subDL (fun t=>sigK (atS css t)) (toks css.length))] (.str (textS css)):=layerT (ds:=[.lst (toks css.length)]) (r:=.str (textS css)) E c (text_run R.mem (ambS css) (fun i j=>botS (rowN css i) (rowN css j)) (atSt css) (fun t=>by unfold atSt;rw [List.length_take];exact Nat.min_le_left _ _) fun i j q=>amb_bot q)
 rwa [er] at r
theorem kind_pos (x:Str):1≤Str.strKind x:=by
 unfold Str.strKind
 split
 ·decide
 ·split <;> decide
theorem split_len (x:Str) (c:Nat) (hc:c < 256):((Txt.split x ⟨#[c]⟩).length:Int)=cnt c x.cps.toList+1:=by
 have h0:=occ_len x c
 unfold Txt.split
 split
 ·rename_i h
  have hk:Str.strKind (⟨#[c]⟩:Str)=1:=by simp [Str.strKind,hc]
  have h1:=kind_pos x
  rw [hk,Bool.or_eq_true,decide_eq_true_eq,decide_eq_true_eq] at h
  rcases h with h | h
  ·have e:x.length < 1:=h
   have:x.cps.toList=[]:=List.eq_nil_of_length_eq_zero (by
    have:x.cps.toList.length=x.length:=by simp [Str.length]
    omega)
   rw [this,cnt_nil];rfl
  ·omega
 ·split
  ·rename_i h
   have:occurrences x ⟨#[c]⟩ 0 x.length (x.length+1)=[]:=List.isEmpty_iff.mp h
   rw [this] at h0
   rw [← h0];rfl
  ·rw [parts_len];omega
theorem cnt_inter {c:Nat} {l:List (List Nat)} (h:∀ x∈l,c∉x) (hn:l≠[]):cnt c (intercal [c] l)+1=l.length:=by
 induction l with
 | nil=>exact absurd rfl hn
 | cons x r ih =>
  have h1:=h x (List.mem_cons_self ..)
  cases r with
  | nil=>show cnt c x+1=1;rw [cnt_none c _ h1];rfl
  | cons y r =>
   have i:=ih (fun z hz=>h z (List.mem_cons_of_mem _ hz)) (List.cons_ne_nil _ _)
   show cnt c (x++[c]++intercal [c] (y::r))+1=_
   rw [cnt_append,cnt_append,cnt_none c _ h1,cnt_cons,cnt_nil,List.length_cons]
   simp only [if_true]
   push_cast
   omega
theorem split_inter {c:Nat} (hc:c < 256) {l:List (List Nat)} (h:∀ x∈l,c∉x) (hn:l≠[]):(splitM c (intercal [c] l)).length=l.length:=by
 have h1:=split_len ⟨(intercal [c] l).toArray⟩ c hc
 have h2:=cnt_inter h hn
 unfold splitM
 rw [List.length_map]
 rw [show (⟨(intercal [c] l).toArray⟩:Str).cps.toList=intercal [c] l from rfl] at h1
 omega
theorem app_nl {c:Nat} {a b:List Nat} (h1:c∉a) (h2:c∉b):c∉a++b:=fun q=>(List.mem_append.mp q).elim h1 h2
theorem text_lines (R:Rows css) (hn:prL css.length (ambS css)≠[]):(splitM 10 (textS css)).length=(prL css.length (ambS css)).length:=by
 unfold textS
 rw [split_inter (by decide) (fun x hx=>?_) (fun q=>hn (List.map_eq_nil_iff.mp q)),List.length_map]
 obtain ⟨p,hp,rfl⟩:=List.mem_map.mp hx
 have hp:=(List.mem_filter.mp hp).1
 have nl:∀ {t},SigP (atS css t)→10∉atSt css t:=fun a=>by rw [atSt_ok a];exact txt_nl a
 exact app_nl (app_nl (app_nl (app_nl (nl (atS_sig R (R.pr hp).1.1)) (by decide)) (nl (atS_sig R (R.pr hp).1.2))) (by decide)) (nl (atS_sigC R hp))
theorem text_none (hn:prL css.length (ambS css)=[]):textS css=[]:=by unfold textS;rw [hn];rfl
end
end
section
noncomputable def neqP (k:Nat):List (Nat×Nat):=(List.range k).flatMap fun i=>((List.range k).filter fun j=>!Nat.beq i j).map fun j=>(i,j)
noncomputable def allP (k:Nat):List (Nat×Nat):=(List.range k).flatMap fun i=>(List.range k).map fun j=>(i,j)
theorem allP_mem {k i j:Nat} (h1:i < k) (h2:j < k):(i,j)∈allP k:=List.mem_flatMap.mpr ⟨i,List.mem_range.mpr h1,List.mem_map.mpr ⟨j,List.mem_range.mpr h2,rfl⟩⟩
theorem neqP_mem {k i j:Nat}:(i,j)∈neqP k↔i < k∧j < k∧i≠j:=by
 unfold neqP
 rw [List.mem_flatMap]
 constructor
 ·rintro ⟨a,h1,h2⟩
  obtain ⟨b,h3,e⟩:=List.mem_map.mp h2
  obtain ⟨h4,h5⟩:=List.mem_filter.mp h3
  obtain ⟨rfl,rfl⟩:=Prod.mk.inj e
  exact ⟨List.mem_range.mp h1,List.mem_range.mp h4,fun q=>by rw [q,Nat.beq_refl] at h5;exact nft h5⟩
 ·rintro ⟨h1,h2,h3⟩
  refine ⟨i,List.mem_range.mpr h1,List.mem_map.mpr ⟨j,List.mem_filter.mpr ⟨List.mem_range.mpr h2,?_⟩,rfl⟩⟩
  rw [((beq_cases i j).resolve_left fun z=>h3 z.2).1];rfl
noncomputable def msT (k:Nat) (m:Nat→Nat→Bool):LE:=⟨k_is_more_specific,44,true,(neqP k).map fun p=>([.opq p.1,.opq p.2],bD (m p.1 p.2))⟩
noncomputable def ahC (k:Nat) (m:Nat→Nat→Bool):List LE:=[msT k m]
noncomputable def ahF (k at_:Nat) (r:List (Nat×AV)):Fm:=⟨f_is_ahead_of_all.sc,(4,.rinst 4 0)::(145,.dat (.lst (toks k)))::(114,iV at_)::r,46⟩
noncomputable def argB (x:MX) (i:Nat):MX:=MX.casesOn x (fun _ _=>x) (fun _ _=>x) (fun _ _=>x) (fun _ xs _=>xs.getD i x) (fun _ _ _ _=>x) (fun _ _=>x) (fun _ _=>x) (fun _ _ _ _=>x) (fun _ _ _=>x) (fun _ _=>x) (fun _ _ _=>x) (fun _ _ _ _=>x) (fun _ _ _=>x) (fun _ _ _ _ _ _=>x) (fun _ _ _ _ _=>x) (fun _ _ _=>x) (fun _ _ _=>x) (fun _ _ _ _ _ _=>x) (fun _ _ _ _=>x) (fun _ _ _=>x) (fun _=>x)
noncomputable def ahL:MS:=mS b_is_ahead_of_all 0
noncomputable def ahB:MX:=itS (mS (bodyS ahL) 0)
noncomputable def aheadB (m:Nat→Nat→Bool) (a x:Nat):Bool:=Nat.beq x a||m a x
noncomputable def k15:List Nat:=[1,2,3,4,5]
theorem k15_e {P:Nat→Prop} (h1:P 1) (h2:P 2) (h3:P 3) (h4:P 4) (h5:P 5):∀ k∈k15,P k:=cons_mem h1 (cons_mem h2 (cons_mem h3 (cons_mem h4 (one_mem h5))))
section
variable (m:Nat→Nat→Bool)
theorem ah_it:∀ k∈k15,(List.range k).map (fun a=>items itN (oT (ahC k m) 49) (ahF k a []) (.var 146 561008561012) (itS ahL) [])=mapB (fun a=>some ((List.range k).map iV,[])) (List.range k) :=
 k15_e (by kernel_rfl) (by kernel_rfl) (by kernel_rfl) (by kernel_rfl) (by kernel_rfl)
theorem ah_c1:∀ k∈k15,(allP k).map (fun p=>(oT (ahC k m) 47).cd (ahF k p.1 [(146,iV p.2)]) (argB ahB 0) [])=mapB (fun p=>some (!Nat.beq p.2 p.1,[])) (allP k) :=
 k15_e (by kernel_rfl) (by kernel_rfl) (by kernel_rfl) (by kernel_rfl) (by kernel_rfl)
theorem ah_c2:∀ k∈k15,(neqP k).map (fun p=>(oT (ahC k m) 47).cd (ahF k p.1 [(146,iV p.2)]) (argB ahB 1) [])=mapB (fun p=>some (!m p.1 p.2,[])) (neqP k) :=
 k15_e (by kernel_rfl) (by kernel_rfl) (by kernel_rfl) (by kernel_rfl) (by kernel_rfl)
theorem ah_cd {k:Nat} (hk:k∈k15) {a x:Nat} (ha:a < k) (hx:x < k):(oT (ahC k m) 48).cd (ahF k a [(146,iV x)]) ahB []=some (!aheadB m a x,[]):=by
 show (oT (ahC k m) 48).cd (ahF k a [(146,iV x)]) (.bop true [argB ahB 0,argB ahB 1] 562011562077) []=_
 unfold aheadB
 refine cd_bop (bopC_c (mem_at (ah_c1 m k hk) (allP_mem ha hx)) (fun e=>?_) fun e=>?_)
 ·rcases beq_cases x a with ⟨q,_⟩ | ⟨q,hne⟩
  ·exact nft (show false=true by rw [← e];show false=!Nat.beq x a;rw [q];rfl)
  ·rw [q,Bool.false_or]
   refine bopC_c (mem_at (ah_c2 m k hk) (neqP_mem.mpr ⟨ha,hx,hne.symm⟩)) (fun e2=>?_) fun _=>rfl
   rw [bopC_n]
   exact congrArg (fun t=>some (t,_)) e2.symm
 ·rcases beq_cases x a with ⟨q,_⟩ | ⟨q,hne⟩
  ·show some (!(Nat.beq x a||m a x),[])=some (!Nat.beq x a,[]);rw [q];rfl
  ·exact absurd (show (!Nat.beq x a)=true by rw [q];rfl) e
theorem ahead_run {k:Nat} (hk:k∈k15) {a:Nat} (ha:a < k):runT inE (ahC k m) 50 k_is_ahead_of_all 46 true [.lst (toks k),.int a]=some (.dat (bD ((List.range k).all (aheadB m a)))):=by
 obtain ⟨fm',⟨r,_,rfl⟩,o2⟩:=forIt_all (H:=[]) (exb:=fun fm H=>exs (oT (ahC k m) 49).ex fm (bodyS ahL) H) (t:=.var 146 561008561012) (f:=iV) (p:=aheadB m a) (v:=.dat (bD false)) (fun fm=>∃ r,(r=[]∨∃ x,r=[(146,x)])∧fm=ahF k a r) (l:=List.range k) (fm:=ahF k a []) ⟨[],.inl rfl,rfl⟩ fun x hx fm hf=>by
  obtain ⟨r,h,rfl⟩:=hf
  refine ⟨ahF k a [(146,iV x)],ahF k a [(146,iV x)],?_,?_,_,.inr ⟨_,rfl⟩,rfl⟩
  ·rcases h with rfl | ⟨y,rfl⟩ <;> rfl
  ·have h1:=ah_cd m hk ha (List.mem_range.mp hx)
   show exs (oT (ahC k m) 49).ex _ [.ifs ahB [.ret (.const (.bool false) 563019563024) 563012563024] [] 562008563024] _=_
   cases q:aheadB m a x with
   | true =>
    rw [q] at h1
    exact exs_n (ex_ifs h1 rfl) rfl
   | false =>
    rw [q] at h1
    exact exs_r (ex_ifs h1 (exs_r (ex_ret (by kernel_rfl))))
 have hit:=mem_at (ah_it m k hk) (List.mem_range.mpr ha)
 have go:∀ t,(List.range k).all (aheadB m a)=t→exs (oT (ahC k m) 50).ex (ahF k a []) f_is_ahead_of_all.body []=some (.ret (.dat (bD t)),ahF k a r,[]):=fun t q=>by
  rw [q] at o2
  show exs (oT (ahC k m) 50).ex (ahF k a []) [.fors (.var 146 561008561012) (itS ahL) (bodyS ahL) _,.ret (.const (.bool true) _) _] _=_
  cases t with
  | true=>exact exs_n (ex_for hit o2) (exs_r (ex_ret (by kernel_rfl)))
  | false=>exact exs_r (ex_for hit o2)
 exact runF_r (fi:=f_is_ahead_of_all) (bs:=[(4,.rinst 4 0),(145,.dat (.lst (toks k))),(114,iV a)]) (by kernel_rfl) (by kernel_rfl) (go _ rfl) rfl
end
end
section
noncomputable def boC (k:Nat) (m:Nat→Nat→Bool) (a:Nat→Bool):List LE:=[msT k m,⟨k_is_ahead_of_all,46,true,(List.range k).map fun (t:Nat)=>([.lst (toks k),.int (t:Int)],bD (a t))⟩]
noncomputable def boF (k:Nat) (r:List (Nat×AV)):Fm:=⟨f_best_of.sc,(4,.rinst 4 0)::(145,.dat (.lst (toks k)))::r,48⟩
noncomputable def boL:MS:=mS b_best_of 2
noncomputable def boI:MS:=mS (bodyS boL) 0
noncomputable def iteP (x:MX):MX:=MX.casesOn x (fun _ _=>x) (fun _ _=>x) (fun _ _=>x) (fun _ _ _=>x) (fun _ _ _ _=>x) (fun _ _=>x) (fun _ _=>x) (fun c _ _ _=>c) (fun _ _ _=>x) (fun _ _=>x) (fun _ _ _=>x) (fun _ _ _ _=>x) (fun _ _ _=>x) (fun _ _ _ _ _ _=>x) (fun _ _ _ _ _=>x) (fun _ _ _=>x) (fun _ _ _=>x) (fun _ _ _ _ _ _=>x) (fun _ _ _ _=>x) (fun _ _ _=>x) (fun _=>x)
noncomputable def boRc:MX:=iteP (itS (mS b_best_of 3))
noncomputable def stepF (m:Nat→Nat→Bool) (h x:Nat):Nat:=cond (m h x) h x
noncomputable def heldF (m:Nat→Nat→Bool) (k:Nat):Nat:=(List.range' 1 (k - 1)).foldl (stepF m) 0
section
variable (m:Nat→Nat→Bool) (a:Nat→Bool)
theorem bo_1:∀ k∈k15,(oT (boC k m a) 50).ex (boF k []) (mS b_best_of 0) []=some (.next,boF k [],[]):=k15_e (by kernel_rfl) (by kernel_rfl) (by kernel_rfl) (by kernel_rfl) (by kernel_rfl)
theorem bo_2:∀ k∈k15,(oT (boC k m a) 50).ex (boF k []) (mS b_best_of 1) []=some (.next,boF k [(148,iV 0)],[]):=k15_e (by kernel_rfl) (by kernel_rfl) (by kernel_rfl) (by kernel_rfl) (by kernel_rfl)
theorem bo_it:∀ k∈k15,items itN (oT (boC k m a) 49) (boF k [(148,iV 0)]) (.var 114 569008569010) (itS boL) []=some ((List.range' 1 (k - 1)).map iV,[]):=k15_e (by kernel_rfl) (by kernel_rfl) (by kernel_rfl) (by kernel_rfl) (by kernel_rfl)
theorem bo_cd:∀ k∈k15,(prs k).map (fun p=>(oT (boC k m a) 48).cd (boF k [(148,iV p.1),(114,iV p.2)]) (itS boI) [])=mapB (fun p=>some (!m p.1 p.2,[])) (prs k):=k15_e (by kernel_rfl) (by kernel_rfl) (by kernel_rfl) (by kernel_rfl) (by kernel_rfl)
theorem bo_a (k h x:Nat):(oT (boC k m a) 48).ex (boF k [(148,iV h),(114,iV x)]) (mS (bodyS boI) 0) []=some (.next,boF k [(148,iV x),(114,iV x)],[]):=by kernel_rfl
theorem bo_rc:∀ k∈k15,(List.range k).map (fun h=>(oT (boC k m a) 48).cd (boF k [(148,iV h)]) boRc [])=mapB (fun h=>some (a h,[])) (List.range k):=k15_e (by kernel_rfl) (by kernel_rfl) (by kernel_rfl) (by kernel_rfl) (by kernel_rfl)
theorem bo_rc1 (x:AV):∀ k∈k15,(List.range k).map (fun h=>(oT (boC k m a) 48).cd (boF k [(148,iV h),(114,x)]) boRc [])=mapB (fun h=>some (a h,[])) (List.range k):=k15_e (by kernel_rfl) (by kernel_rfl) (by kernel_rfl) (by kernel_rfl) (by kernel_rfl)
theorem bo_v (k h:Nat) (r:List (Nat×AV)):(oT (boC k m a) 48).ev (boF k ((148,iV h)::r)) (.var 148 572011572015) []=some (iV h,[])∧(oT (boC k m a) 48).ev (boF k ((148,iV h)::r)) (.const .none 572059572063) []=some (.dat .none,[]):=⟨by kernel_rfl,by kernel_rfl⟩
end
section
variable {oq:OpqE} {I:ItN} {C:Cfg} {n:Nat} {fm:Fm} {H H1:Hp} {c b e:MX} {p:Nat} {q:Bool} {o:Option (AV×Hp)} {t:MX} {exb:Fm→Hp→Option (Fl×Fm×Hp)}
theorem ev_ite (h:(ops I C n).cd fm c H=some (q,H1)) (h2:(ops I C n).ev fm (cond q b e) H1=o):(ops I C (n+1)).ev fm (.ite c b e p) H=o:=ops_ev (ob2_u (fun t H=>cond t ((ops I C n).ev fm b H) ((ops I C n).ev fm e H)) h rfl (by cases q <;> exact h2))
theorem forIt_rng (step:Nat→Nat→Nat) (inv:Nat→Nat→Fm→Prop) {m:Nat}:∀ {a s:Nat} {fm:Fm},inv a s fm→(∀ x s fm,a≤x→x < a+m→inv x s fm→∃ fm1 fm2,asgT fm t (iV x)=some fm1∧exb fm1 H=some (.next,fm2,H)∧inv (x+1) (step s x) fm2)→∃ fm',inv (a+m) ((List.range' a m).foldl step s) fm'∧forIt exb t ((List.range' a m).map iV) fm H=some (.next,fm',H):=by
 induction m with
 | zero=>exact fun {a s fm} hi _=>⟨fm,hi,rfl⟩
 | succ m ih =>
  intro a s fm hi h
  obtain ⟨fm1,fm2,h1,h2,h3⟩:=h a s fm (Nat.le_refl _) (Nat.lt_add_of_pos_right (Nat.succ_pos _)) hi
  have e:a+(m+1)=a+1+m:=by omega
  obtain ⟨fm',i1,i2⟩:=ih (a:=a+1) (s:=step s a) h3 fun x s fm q1 q2 hi=>h x s fm (Nat.le_of_succ_le q1) (e ▸ q2) hi
  refine ⟨fm',e ▸ i1,?_⟩
  rw [List.range'_succ,List.map_cons]
  exact ob_u (fun fm=>ob3 (exb fm _) fun f fm H=>flr f (forIt exb t ((List.range' (a+1) m).map iV) fm H) fun r=>some (.ret r,fm,H)) h1 rfl (ob3_s h2 i2)
end
noncomputable def bestD (m:Nat→Nat→Bool) (a:Nat→Bool) (k:Nat):DV:=cond (a (heldF m k)) (.int (heldF m k:Int)) .none
theorem k15_pos {k:Nat} (h:k∈k15):1≤k:=k15_e (P:=fun k=>1≤k) (by decide) (by decide) (by decide) (by decide) (by decide) k h
theorem best_run (m:Nat→Nat→Bool) (a:Nat→Bool) {k:Nat} (hk:k∈k15):runT inE (boC k m a) 50 k_best_of 48 true [.lst (toks k)]=some (.dat (bestD m a k)):=by
 have hk1:=k15_pos hk
 obtain ⟨fm',⟨hlt,r,hr,rfl⟩,o2⟩:=forIt_rng (H:=[]) (exb:=fun fm H=>exs (oT (boC k m a) 49).ex fm (bodyS boL) H) (t:=.var 114 569008569010) (stepF m) (fun x h fm=>h < x∧∃ r,(r=[]∨∃ y,r=[(114,y)])∧fm=boF k ((148,iV h)::r)) (m:=k - 1) (a:=1) (s:=0) (fm:=boF k [(148,iV 0)]) ⟨Nat.one_pos,[],.inl rfl,rfl⟩ fun x h fm q1 q2 hi=>by
  obtain ⟨hlt,r,hr,rfl⟩:=hi
  have h1:=mem_at (bo_cd m a k hk) (prs_mem (i:=h) (j:=x).mpr ⟨hlt,by omega⟩)
  have ha:asgT (boF k ((148,iV h)::r)) (.var 114 569008569010) (iV x)=some (boF k [(148,iV h),(114,iV x)]):=by rcases hr with rfl | ⟨y,rfl⟩ <;> rfl
  refine ⟨boF k [(148,iV h),(114,iV x)],boF k [(148,iV (stepF m h x)),(114,iV x)],ha,?_,?_,_,.inr ⟨_,rfl⟩,rfl⟩
  ·show exs (oT (boC k m a) 49).ex _ [.ifs (itS boI) [mS (bodyS boI) 0] [] 570008571021] _=_
   unfold stepF
   cases q:m h x with
   | true =>
    rw [q] at h1
    exact exs_n (ex_ifs h1 rfl) rfl
   | false =>
    rw [q] at h1
    exact exs_n (ex_ifs h1 (exs_n (bo_a m a k h x) rfl)) rfl
  ·unfold stepF
   cases m h x with
   | true=>exact Nat.lt_succ_of_lt hlt
   | false=>exact Nat.lt_succ_self x
 have hh:heldF m k < k:=Nat.lt_of_lt_of_le hlt (Nat.le_of_eq (by omega))
 have hc:(oT (boC k m a) 48).cd (boF k ((148,iV (heldF m k))::r)) boRc []=some (a (heldF m k),[]):=by
  rcases hr with rfl | ⟨y,rfl⟩
  ·exact mem_at (bo_rc m a k hk) (List.mem_range.mpr hh)
  ·exact mem_at (bo_rc1 m a y k hk) (List.mem_range.mpr hh)
 have hv:(oT (boC k m a) 48).ev (boF k ((148,iV (heldF m k))::r)) (cond (a (heldF m k)) (.var 148 572011572015) (.const .none 572059572063)) []=some (.dat (bestD m a k),[]):=by
  unfold bestD
  cases a (heldF m k) with
  | false=>exact (bo_v m a k _ r).2
  | true=>exact (bo_v m a k _ r).1
 refine runF_r (fi:=f_best_of) (bs:=[(4,.rinst 4 0),(145,.dat (.lst (toks k)))]) (v:=.dat (bestD m a k)) (fm':=boF k ((148,iV (heldF m k))::r)) (H':=[]) (by kernel_rfl) (by kernel_rfl) ?_ rfl
 show exs (oT (boC k m a) 50).ex (boF k []) [mS b_best_of 0,mS b_best_of 1,.fors (.var 114 569008569010) (itS boL) (bodyS boL) _,.ret (.ite boRc (.var 148 572011572015) (.const .none 572059572063) _) _] _=_
 exact exs_n (bo_1 m a k hk) (exs_n (bo_2 m a k hk) (exs_n (ex_for (bo_it m a k hk) o2) (exs_r (ex_ret (ev_ite hc hv)))))
end
section
noncomputable def aheadAll (m:Nat→Nat→Bool) (k a:Nat):Bool:=(List.range k).all (aheadB m a)
section
variable {m:Nat→Nat→Bool} {k b s:Nat} {l:List Nat}
theorem step_lt {x:Nat} (h1:s < k) (h2:x < k):stepF m s x < k:=by
 unfold stepF
 cases m s x with
 | true=>exact h1
 | false=>exact h2
theorem fold_lt (h:∀ x∈l,x < k) (hs:s < k):l.foldl (stepF m) s < k:=by
 induction l generalizing s with
 | nil=>exact hs
 | cons x l ih=>exact ih (fun y hy=>h y (List.mem_cons_of_mem _ hy)) (step_lt hs (h x (List.mem_cons_self ..)))
theorem step_stay (hb:∀ x,x < k→x≠b→m b x=true) {x:Nat} (hx:x < k):stepF m b x=b:=by
 unfold stepF
 by_cases q:x=b
 ·rw [q];cases m b b <;> rfl
 ·rw [hb x hx q];rfl
theorem fold_stay (hb:∀ x,x < k→x≠b→m b x=true) (h:∀ x∈l,x < k):l.foldl (stepF m) b=b:=by
 induction l with
 | nil=>rfl
 | cons x l ih=>rw [List.foldl_cons,step_stay hb (h x (List.mem_cons_self ..))];exact ih fun y hy=>h y (List.mem_cons_of_mem _ hy)
theorem fold_best (has:∀ {i j},m i j=true→m j i=false) (hb:∀ x,x < k→x≠b→m b x=true) (hm:b∈l) (h:∀ x∈l,x < k) (hs:s < k):l.foldl (stepF m) s=b:=by
 induction l generalizing s with
 | nil=>exact absurd hm List.not_mem_nil
 | cons x l ih =>
  have hl:=fun y hy=>h y (List.mem_cons_of_mem _ hy)
  rcases List.mem_cons.mp hm with rfl | hm
  ·have e:stepF m s b=b:=by
    by_cases q:s=b
    ·rw [q];exact step_stay hb (h b (List.mem_cons_self ..))
    ·unfold stepF;rw [has (hb s hs q)];rfl
   rw [List.foldl_cons,e];exact fold_stay hb hl
  ·exact ih hm hl (step_lt hs (h x (List.mem_cons_self ..)))
theorem rng_lt:∀ x∈List.range' 1 (k - 1),x < k:=fun x h=>by
 have:=List.mem_range'_1.mp h
 omega
theorem held_lt (hk:1≤k):heldF m k < k:=fold_lt rng_lt hk
theorem held_best (has:∀ {i j},m i j=true→m j i=false) (hb:b < k) (h:aheadAll m k b=true):heldF m k=b:=by
 have hb1:∀ x,x < k→x≠b→m b x=true:=fun x hx hn=>by
  have z:(Nat.beq x b||m b x)=true:=List.all_eq_true.mp h x (List.mem_range.mpr hx)
  rw [((beq_cases x b).resolve_left fun q=>hn q.2).1] at z
  exact z
 by_cases q:b=0
 ·subst q;exact fold_stay hb1 rng_lt
 ·exact fold_best has hb1 (List.mem_range'_1.mpr ⟨Nat.pos_of_ne_zero q,by omega⟩) rng_lt (Nat.lt_of_le_of_lt (Nat.zero_le _) hb)
theorem best_none (hk:1≤k) (has:∀ {i j},m i j=true→m j i=false):isNoneD (bestD m (aheadAll m k) k)=!(List.range k).any (aheadAll m k):=by
 unfold bestD
 cases q:aheadAll m k (heldF m k) with
 | true=>rw [List.any_eq_true.mpr ⟨_,List.mem_range.mpr (held_lt hk),q⟩];rfl
 | false =>
  have z:(List.range k).any (aheadAll m k)=false:=Bool.eq_false_iff.mpr fun y=>by
   obtain ⟨b,hb,h⟩:=List.any_eq_true.mp y
   rw [held_best has (List.mem_range.mp hb) h,h] at q
   exact nft q.symm
  rw [z];rfl
end
end
section
noncomputable def fiC (n:Nat) (u:Nat→Bool):List LE:=[⟨k_is_subtype,42,true,(List.range n).map fun t=>([.opq n,.opq t],bD (u t))⟩]
noncomputable def fiSc:Sc:=[(0,.local),(114,.local),(118,.globalImplicit),(158,.free),(4,.free),(145,.free)]
noncomputable def fiF (sc:Sc) (n:Nat) (r:List (Nat×AV)):Fm:=⟨sc,(4,.rinst 4 0)::(145,.dat (.lst (toks n)))::(158,.dat (.opq n))::r,46⟩
noncomputable def compG (x:MX):MX×MX:=MX.casesOn x (fun _ _=>(x,x)) (fun _ _=>(x,x)) (fun _ _=>(x,x)) (fun _ _ _=>(x,x)) (fun _ _ _ _=>(x,x)) (fun _ _=>(x,x)) (fun _ _=>(x,x)) (fun _ _ _ _=>(x,x)) (fun _ _ _=>(x,x)) (fun _ _=>(x,x)) (fun _ _ _=>(x,x)) (fun _ _ _ _=>(x,x)) (fun _ _ _=>(x,x)) (fun _ _ _ _ _ _=>(x,x)) (fun _ _ _ _ _=>(x,x)) (fun _ _ _=>(x,x)) (fun _ _ _=>(x,x)) (fun _ _ _ _ _ _=>(x,x))
 (fun _ gs _ _=>Option.rec (x,x) (fun p=>(p.2.1,p.2.2.getD 0 x)) (asGen (gs.getD 0 x))) (fun _ _ _=>(x,x)) (fun _=>(x,x))
noncomputable def fiP:MX×MX:=compG (itS (mS b_fitting 0))
section
variable (u:Nat→Bool)
theorem fi_it:∀ n∈[3,4,5],items itN (oT (fiC n u) 48) (fiF f_fitting.sc n []) (.var 114 597019597021) fiP.1 []=some ((List.range n).map iV,[]) :=
 cons_mem (by kernel_rfl) (cons_mem (by kernel_rfl) (one_mem (by kernel_rfl)))
theorem fi_cd:∀ n∈[3,4,5],(List.range n).map (fun x=>(oT (fiC n u) 48).cd (fiF fiSc n [(114,iV x)]) fiP.2 [])=mapB (fun x=>some (u x,[])) (List.range n) :=
 cons_mem (by kernel_rfl) (cons_mem (by kernel_rfl) (one_mem (by kernel_rfl)))
theorem fi_e (n x:Nat):(oT (fiC n u) 48).ev (fiF fiSc n [(114,iV x)]) (.var 114 597012597014) []=some (iV x,[]):=by kernel_rfl
noncomputable def intsD (l:List Nat):List DV:=l.map fun (t:Nat)=>.int (t:Int)
theorem datL_ints (l:List Nat):datL (intsD l)=l.map iV:=datL_mapF _ _
theorem n345 {n:Nat} (h:n∈[3,4,5]):n≤5:=cons_mem (p:=fun n=>n≤5) (by decide) (cons_mem (by decide) (one_mem (by decide))) n h
theorem fit_run {n:Nat} (hn:n∈[3,4,5]):runT inE (fiC n u) 50 k_fitting 46 true [.lst (toks n),.opq n]=some (.dat (.lst (intsD ((List.range n).filter u)))):=by
 have hc:compIt (oT (fiC n u) 48).cd (compGens itN (oT (fiC n u) 48) (.var 114 597012597014) []) (.var 114 597019597021) [fiP.2] (fiF fiSc n []) ((List.range n).map iV) []=some (((List.range n).filter u).map iV,[]) :=
  compIt_map (f:=iV) (g:=iV) (p:=u) rfl fun x hx=>⟨fiF fiSc n [(114,iV x)],rfl,cds_1 (mem_at (fi_cd u n hn) hx),fun _=>comp_e (fi_e u n x)⟩
 have hl:(((List.range n).filter u).map iV).length≤1000000:=by
  rw [List.length_map]
  exact Nat.le_trans (List.length_filter_le _ _) (by rw [List.length_range];exact Nat.le_trans (n345 hn) (by decide))
 refine runF_r (fi:=f_fitting) (bs:=[(4,.rinst 4 0),(145,.dat (.lst (toks n))),(158,.dat (.opq n))]) (v:=.dat (.lst (intsD ((List.range n).filter u)))) (fm':=fiF f_fitting.sc n []) (H':=[]) (by kernel_rfl) (by kernel_rfl) ?_ rfl
 show exs (oT (fiC n u) 50).ex (fiF f_fitting.sc n []) [.ret (.comp (.var 114 597012597014) [.gen (.var 114 597019597021) fiP.1 [fiP.2]] fiSc _) _] _=_
 exact exs_r (ex_ret (ev_comp (comp_v (by kernel_rfl) (fi_it u n hn) hc hl) (by rw [← datL_ints];exact allDat_datL _)))
end
noncomputable def subl (l:List Nat):List (List Nat):=lrec [[]] (fun a _ q=>q++q.map (a::·)) l
theorem filter_subl (p:Nat→Bool) (l:List Nat):l.filter p∈subl l:=by
 induction l with
 | nil=>exact List.mem_singleton.mpr rfl
 | cons a r ih =>
  rw [List.filter_cons]
  cases p a with
  | true=>exact List.mem_append.mpr (.inr (List.mem_map.mpr ⟨_,ih,rfl⟩))
  | false=>exact List.mem_append.mpr (.inl ih)
noncomputable def bestE (fs:List Nat) (bv:DV):List (List DV×DV):=cond fs.isEmpty [] [([.lst (fs.map .opq)],bv)]
noncomputable def loC (n:Nat) (bv:DV) (fs:List Nat):List LE:=[⟨k_fitting,46,true,[([.lst (toks n),.opq n],.lst (intsD fs))]⟩,⟨k_best_of,48,true,bestE fs bv⟩]
noncomputable def loR (n:Nat) (bv:DV) (fs:List Nat):Option AV:=runT inE (loC n bv fs) 60 k_is_left_open 50 true [.lst (toks n),.opq n]
theorem lo_n:∀ n∈[3,4,5],(subl (List.range n)).map (loR n .none)=mapB (fun fs=>some (.dat (bD (!fs.isEmpty)))) (subl (List.range n)) :=
 cons_mem (by kernel_rfl) (cons_mem (by kernel_rfl) (one_mem (by kernel_rfl)))
theorem lo_i (h:Int):∀ n∈[3,4,5],(subl (List.range n)).map (loR n (.int h))=mapB (fun fs=>some (.dat (bD false))) (subl (List.range n)) :=
 cons_mem (by kernel_rfl) (cons_mem (by kernel_rfl) (one_mem (by kernel_rfl)))
end
section
structure RowsG (css:List (List (List Nat))):Prop where
 n:css.length∈k15
 s:∀ {i},i < css.length→SigP (rowN css i)
 p:∀ {i j},i < css.length→j < css.length→i≠j→Okp (rowN css i) (rowN css j)
section
variable {css:List (List (List Nat))} {as:List (List Nat)} {t i:Nat}
theorem Rows.g (R:Rows css):RowsG css:=⟨by rcases R.n with e | e | e <;> (rw [e];decide),R.s,R.p⟩
theorem RowsG.tk (R:RowsG css):∀ d∈css.map sigK,Tk d:=fun d hd=>by
 obtain ⟨c,hc,rfl⟩:=List.mem_map.mp hd
 obtain ⟨i,hi⟩:=List.mem_iff_getElem?.mp hc
 have hl:=(List.getElem?_eq_some_iff.mp hi).1
 rw [rowN_at hl] at hi
 exact Option.some.inj hi ▸ (R.s hl).tk
noncomputable def msN (css:List (List (List Nat))) (i j:Nat):Bool:=msS (rowN css i) (rowN css j)
theorem msN_as {i j:Nat} (h:msN css i j=true):msN css j i=false:=and_e h fun _ h2=>by
 unfold msN msS
 rw [(Bool.not_eq_true' _).mp h2];rfl
variable {w:World} {h:Heap} {K:Frag} {φb:Nat→Option Addr}
theorem msT_ok (E:Wd h K) (R:RowsG css) {ds:List DV} {tk:∀ d∈ds,Tk d} (hd:∀ {t},t < css.length→lsD ds t=sigK (rowN css t)):LeOK w h K φb (lsI ds tk) (msT css.length (msN css)):=⟨rfl,fun x hx=>by
 obtain ⟨p,hp,rfl⟩:=List.mem_map.mp hx
 obtain ⟨h1,h2,h3⟩:=neqP_mem.mp (show (p.1,p.2)∈neqP css.length from hp)
 show FT w h K φb k_is_more_specific 44 true [lsD ds p.1,lsD ds p.2] _
 rw [hd h1,hd h2]
 exact ms_t E (R.p h1 h2 h3)⟩
theorem ahead_t (E:Wd h K) (R:RowsG css) {a:Nat} (ha:a < css.length):FT w h K φb k_is_ahead_of_all 46 true [.lst (css.map sigK),.int a] (bD (aheadAll (msN css) css.length a)):=by
 have c:ConOK w h K φb (lsI (css.map sigK) R.tk) (conT (ahC css.length (msN css))):=conT_ok (one_mem (msT_ok E R lsD_row))
 have r:FT w h K φb k_is_ahead_of_all 46 true [.lst (subDL (lsD (css.map sigK)) (toks css.length)),.int a] (bD (aheadAll (msN css) css.length a)):=layerT (ds:=[.lst (toks css.length),.int a]) (r:=bD (aheadAll (msN css) css.length a)) E c (ahead_run (msN css) R.n ha)
 rwa [toks_rows lsD_row] at r
noncomputable def bestN (css:List (List (List Nat))):DV:=bestD (msN css) (aheadAll (msN css) css.length) css.length
theorem best_sub (D:Nat→DV):subD D (bestN css)=bestN css:=by
 unfold bestN bestD
 cases aheadAll (msN css) css.length (heldF (msN css) css.length) <;> rfl
theorem best_t (E:Wd h K) (R:RowsG css):FT w h K φb k_best_of 48 true [.lst (css.map sigK)] (bestN css):=by
 have er:subDL (lsD (css.map sigK)) (toks css.length)=css.map sigK:=toks_rows lsD_row
 have c:ConOK w h K φb (lsI (css.map sigK) R.tk) (conT (boC css.length (msN css) (aheadAll (msN css) css.length))):=conT_ok (cons_mem (msT_ok E R lsD_row) (one_mem ⟨rfl,fun x hx=>by
  obtain ⟨t,ht,rfl⟩:=List.mem_map.mp hx
  show FT w h K φb k_is_ahead_of_all 46 true [.lst (subDL (lsD (css.map sigK)) (toks css.length)),.int t] _
  rw [er]
  exact ahead_t E R (List.mem_range.mp ht)⟩))
 have r:FT w h K φb k_best_of 48 true [.lst (subDL (lsD (css.map sigK)) (toks css.length))] (subD (lsD (css.map sigK)) (bestN css)):=layerT (ds:=[.lst (toks css.length)]) (r:=bestN css) E c (best_run (msN css) (aheadAll (msN css) css.length) R.n)
 rwa [er,best_sub] at r
structure Ask (css:List (List (List Nat))) (as:List (List Nat)):Prop where
 s:SigP as
 p:∀ {i},i < css.length→Okp as (rowN css i)
noncomputable def askD (css:List (List (List Nat))) (as:List (List Nat)):List DV:=css.map sigK++[sigK as]
theorem askD_tk (R:Rows css) (A:Ask css as):∀ d∈askD css as,Tk d:=fun d hd=>(List.mem_append.mp hd).elim (rows_tk R d) (one_mem A.s.tk d)
theorem askD_row (h:t < css.length):lsD (askD css as) t=sigK (rowN css t):=getD_at (by unfold askD;rw [List.getElem?_append_left (by rw [List.length_map];exact h),List.getElem?_map,rowN_at h];rfl)
theorem askD_ask:lsD (askD css as) css.length=sigK as:=getD_at (by unfold askD;rw [List.getElem?_append_right (by rw [List.length_map];exact Nat.le_refl _),List.length_map,Nat.sub_self];rfl)
noncomputable def fitL (css:List (List (List Nat))) (as:List (List Nat)):List Nat:=(List.range css.length).filter fun t=>undS as (rowN css t)
theorem ints_sub (D:Nat→DV) (l:List Nat):subDL D (intsD l)=intsD l:=subDL_map D _ l
theorem ask_args:subDL (lsD (askD css as)) [.lst (toks css.length),.opq css.length]=[.lst (css.map sigK),sigK as]:=by
 show [DV.lst (subDL _ (toks css.length)),lsD (askD css as) css.length]=_
 rw [toks_rows askD_row,askD_ask]
theorem fit_t (E:Wd h K) (R:Rows css) (A:Ask css as):FT w h K φb k_fitting 46 true [.lst (css.map sigK),sigK as] (.lst (intsD (fitL css as))):=by
 have c:ConOK w h K φb (lsI (askD css as) (askD_tk R A)) (conT (fiC css.length fun t=>undS as (rowN css t))):=conT_ok (one_mem ⟨rfl,fun x hx=>by
  obtain ⟨t,ht,rfl⟩:=List.mem_map.mp hx
  have ht:=List.mem_range.mp ht
  show FT w h K φb k_is_subtype 42 true [lsD (askD css as) css.length,lsD (askD css as) t] _
  rw [askD_row ht,askD_ask]
  exact sub_t E (A.p ht)⟩)
 have r:FT w h K φb k_fitting 46 true (subDL (lsD (askD css as)) [.lst (toks css.length),.opq css.length]) (.lst (subDL (lsD (askD css as)) (intsD (fitL css as)))):=layerT (ds:=[.lst (toks css.length),.opq css.length]) (r:=.lst (intsD (fitL css as))) E c (fit_run (fun t=>undS as (rowN css t)) R.mem)
 rwa [ask_args,ints_sub] at r
end
end
section
section
variable {css:List (List (List Nat))} {as:List (List Nat)} {t i:Nat}
noncomputable def fitR (css:List (List (List Nat))) (as:List (List Nat)):List (List (List Nat)):=(fitL css as).map (rowN css)
theorem fitL_lt (h:t∈fitL css as):t < css.length:=List.mem_range.mp (List.mem_filter.mp h).1
theorem fitL_nodup:(fitL css as).Nodup:=List.Pairwise.filter _ List.nodup_range
theorem fitR_at (h:i < (fitL css as).length):rowN (fitR css as) i=rowN css (fitL css as)[i]:=getD_at (by unfold fitR;rw [List.getElem?_map,List.getElem?_eq_getElem h];rfl)
theorem k15_of {n:Nat} (h1:1≤n) (h5:n≤5):n∈k15:=by
 unfold k15
 simp only [List.mem_cons,List.not_mem_nil,or_false]
 omega
theorem fitR_g (R:Rows css) (hne:(fitL css as).isEmpty=false):RowsG (fitR css as):=by
 have hl:(fitR css as).length=(fitL css as).length:=List.length_map ..
 refine ⟨?_,fun {i} hi=>?_,fun {i j} hi hj hn=>?_⟩
 ·rw [hl]
  refine k15_of (List.length_pos_iff.mpr fun q=>nft (hne.symm.trans (List.isEmpty_iff.mpr q))) (Nat.le_trans (List.length_filter_le _ _) ?_)
  rw [List.length_range];exact R.le
 ·rw [hl] at hi
  rw [fitR_at hi];exact R.s (fitL_lt (List.getElem_mem hi))
 ·rw [hl] at hi hj
  rw [fitR_at hi,fitR_at hj]
  have ne:=List.pairwise_iff_getElem.mp (fitL_nodup (css:=css) (as:=as))
  refine R.p (fitL_lt (List.getElem_mem hi)) (fitL_lt (List.getElem_mem hj)) fun q=>hn ?_
  exact Nat.le_antisymm (Nat.le_of_not_lt fun l=>ne _ _ hj hi l q.symm) (Nat.le_of_not_lt fun l=>ne _ _ hi hj l q)
noncomputable def openB (css:List (List (List Nat))) (as:List (List Nat)):Bool:=!(fitL css as).isEmpty&&isNoneD (bestN (fitR css as))
variable {w:World} {h:Heap} {K:Frag} {φb:Nat→Option Addr}
theorem fit_rows:subDL (lsD (askD css as)) ((fitL css as).map .opq)=(fitR css as).map sigK:=by
 rw [subDL_map]
 unfold fitR
 rw [List.map_map]
 exact List.map_congr_left fun t ht=>askD_row (fitL_lt ht)
theorem open_t (E:Wd h K) (R:Rows css) (A:Ask css as):FT w h K φb k_is_left_open 50 true [.lst (css.map sigK),sigK as] (bD (openB css as)):=by
 have hm:fitL css as∈subl (List.range css.length):=filter_subl _ _
 have c:ConOK w h K φb (lsI (askD css as) (askD_tk R A)) (conT (loC css.length (bestN (fitR css as)) (fitL css as))):=by
  refine conT_ok (cons_mem ⟨rfl,one_mem ?_⟩ (one_mem ⟨rfl,fun x hx=>?_⟩))
  ·show FT w h K φb k_fitting 46 true (subDL (lsD (askD css as)) [.lst (toks css.length),.opq css.length]) (.lst (subDL (lsD (askD css as)) (intsD (fitL css as))))
   rw [ask_args,ints_sub]
   exact fit_t E R A
  ·have hx:x∈bestE (fitL css as) (bestN (fitR css as)):=hx
   unfold bestE at hx
   cases q:(fitL css as).isEmpty with
   | true=>rw [q] at hx;exact absurd hx List.not_mem_nil
   | false =>
    rw [q] at hx
    rw [List.mem_singleton.mp hx]
    show FT w h K φb k_best_of 48 true [.lst (subDL (lsD (askD css as)) ((fitL css as).map .opq))] (subD (lsD (askD css as)) (bestN (fitR css as)))
    rw [best_sub,fit_rows]
    exact best_t E (fitR_g R q)
 have run:loR css.length (bestN (fitR css as)) (fitL css as)=some (.dat (bD (openB css as))):=by
  unfold openB bestN bestD
  cases aheadAll (msN (fitR css as)) (fitR css as).length (heldF (msN (fitR css as)) (fitR css as).length) with
  | false=>exact (mem_at (lo_n _ R.mem) hm).trans (congrArg (fun b=>some (AV.dat (bD b))) (Bool.and_true _).symm)
  | true=>exact (mem_at (lo_i _ _ R.mem) hm).trans (congrArg (fun b=>some (AV.dat (bD b))) (Bool.and_false _).symm)
 have r:FT w h K φb k_is_left_open 50 true (subDL (lsD (askD css as)) [.lst (toks css.length),.opq css.length]) (bD (openB css as)):=layerT (ds:=[.lst (toks css.length),.opq css.length]) (r:=bD (openB css as)) E c run
 rwa [ask_args] at r
end
end
section
section
variable {oq:OpqE} {I:ItN} {C:Cfg} {n:Nat} {fm:Fm} {H H1:Hp}
theorem ev_len {f x:MX} {p:Nat} {v:AV} {k:Nat} (hf:isGlob f=true) (h0:(ops I C n).ev fm f H=some (.pr .len,H)) (h1:(ops I C n).ev fm x H=some (v,H)) (h2:lenV H v=some (k:Int)):(ops I C (n+1)).ev fm (.call f [x] p) H=some (.dat (.int k),H) :=
 ops_ev (ob2_u (putRes false) (gb_u (ob2 ((ops I C n).ev fm f H) fun f H=>ob2 (evs (ops I C n).ev fm [x] H) fun vs H=>Option.rec (ob ((ops I C n).call fm.dep f vs H) resV)
   (fun k=>cond (isDict k) (ob (dictV vs H) fun es=>resV (newDict es H)) (ob (primV k vs H) fun r=>some (r,H))) (prV f)) hf rfl (ob2_s h0 (ob2_s (evs_1 h1) (ob_u (fun r=>some (r,H)) (ob_u vI h2 rfl rfl:primV .len [v] H=some (.val (.dat (.int k)))) rfl rfl)))) rfl rfl)
theorem lenV_lst {l:List DV} (h:l.length≤1000000):lenV H (.dat (.lst l))=some (l.length:Int):=by
 show alt (lenB (datL l).length) _=_
 rw [datL_len,show lenB l.length=some (l.length:Int) from gb_u _ (Nat.ble_eq_true_of_le h) rfl rfl];rfl
theorem cmp_int_ne (B:List AO) (H:Hp) (a b:Int):cmpOpV B .NotEq H (.dat (.int a)) (.dat (.int b))=some (!(a==b)):=rfl
theorem cmp_int_eq (B:List AO) (H:Hp) (a b:Int):cmpOpV B .Eq H (.dat (.int a)) (.dat (.int b))=some (a==b):=rfl
theorem eqV_dat {d e:DV} {t:Bool} (h1:depD d≤64) (h2:depD e≤64) (h:deqO d e=some t):eqV H (.dat d) (.dat e)=some t:=by
 show alt (gb (le (depD d) 64&&le (depD e) 64) (deqO d e)) _=_
 have e1:gb (le (depD d) 64&&le (depD e) 64) (deqO d e)=some t:=gb_u (deqO d e) ((Bool.and_eq_true ..).mpr ⟨Nat.ble_eq_true_of_le h1,Nat.ble_eq_true_of_le h2⟩) rfl h
 rw [e1];rfl
theorem cmp_eq {B:List AO} {d e:DV} {t:Bool} (h1:depD d≤64) (h2:depD e≤64) (h:deqO d e=some t):cmpOpV B .Eq H (.dat d) (.dat e)=some t:=eqV_dat h1 h2 h
theorem cmp_ne {B:List AO} {d e:DV} {t:Bool} (h1:depD d≤64) (h2:depD e≤64) (h:deqO d e=some t):cmpOpV B .NotEq H (.dat d) (.dat e)=some (!t):=ob_u (fun b=>some (!b)) (eqV_dat h1 h2 h) rfl rfl
theorem deq_nil (l:List DV):deqO (.lst l) (.lst [])=some l.isEmpty:=by cases l <;> rfl
theorem dep_nil {l:List DV} (h:depL l≤60):depD (.lst l)≤64:=Nat.le_trans (Nat.succ_le_succ h) (by decide)
theorem cmp_nil_eq (B:List AO) (H:Hp) {l:List DV} (h:depL l≤60):cmpOpV B .Eq H (.dat (.lst l)) (.dat (.lst []))=some l.isEmpty:=cmp_eq (dep_nil h) (by decide) (deq_nil l)
theorem cmp_nil_ne (B:List AO) (H:Hp) {l:List DV} (h:depL l≤60):cmpOpV B .NotEq H (.dat (.lst l)) (.dat (.lst []))=some (!l.isEmpty):=cmp_ne (dep_nil h) (by decide) (deq_nil l)
theorem depL_le {l:List DV} {k:Nat} (h:∀ d∈l,depD d≤k):depL l≤k:=by
 induction l with
 | nil=>exact Nat.zero_le _
 | cons a r ih=>exact Nat.max_le.mpr ⟨h a (List.mem_cons_self ..),ih fun d q=>h d (List.mem_cons_of_mem _ q)⟩
theorem pairUp_zip {α β:Type} (f:α→DV) (g:β→DV) {l:List α}:∀ {r:List β},pairUp pair2 (datL (l.map f)) (datL (r.map g))=(List.zip l r).map fun p=>.dat (.tup [f p.1,g p.2]):=by
 induction l with
 | nil=>exact fun {r}=>rfl
 | cons a l ih =>
  intro r
  cases r with
  | nil=>rfl
  | cons b r=>exact congrArg (List.cons (AV.dat (.tup [f a,g b]))) ih
end
noncomputable def sN (x:Nat):DV:=.str (nmC x)
noncomputable def lotV (l:List Nat):DV:=.lst (l.map sN)
noncomputable def rowV (cs:List (List Nat)):DV:=.lst (cs.map lotV)
noncomputable def NamesP (l:List Nat):Prop:=∀ x∈l,x < 10
theorem nm_inj:(List.range 10).all (fun x=>(List.range 10).all fun y=>listBeq (nmC x) (nmC y)==Nat.beq x y)=true:=by decide +kernel
theorem lotV_dep (l:List Nat):depD (lotV l)≤1:=Nat.succ_le_succ (depL_le fun d hd=>by
 obtain ⟨x,_,rfl⟩:=List.mem_map.mp hd;exact Nat.le_refl _)
theorem lotV_tk (l:List Nat):Tk (lotV l):=⟨rfl,Nat.le_trans (lotV_dep l) (by decide)⟩
theorem rowV_tk (cs:List (List Nat)):Tk (rowV cs):=⟨rfl,Nat.le_trans (Nat.succ_le_succ (depL_le (k:=1) fun d hd=>by
 obtain ⟨x,_,rfl⟩:=List.mem_map.mp hd;exact lotV_dep x)) (by decide)⟩
theorem anyEq_names {oq:OpqE} {x:Nat} (hx:x < 10) {l:List Nat} (h:NamesP l):anyEqO (sN x) (l.map sN)=some (memN l x):=by
 induction l with
 | nil=>rfl
 | cons a r ih =>
  have e:=beq_iff_eq.mp (List.all_eq_true.mp (List.all_eq_true.mp nm_inj a (List.mem_range.mpr (h a (List.mem_cons_self ..)))) x (List.mem_range.mpr hx))
  have i:=ih fun y hy=>h y (List.mem_cons_of_mem _ hy)
  show cond (listBeq (nmC a) (nmC x)) (some true) (anyEqO (sN x) (r.map sN))=some (cond (Nat.beq a x) true (memN r x))
  rw [e,i]
  cases Nat.beq a x <;> rfl
end
section
theorem forIt_accr {α:Type} {t:MX} {exb:Fm→Hp→Option (Fl×Fm×Hp)} {f:α→AV} {p:α→Bool} {g:α→List AV} {N:Nat} {v:AV} (St:List AV→Hp) (inv:Fm→Prop) {l:List α}:∀ {fm:Fm} {L:List AV},inv fm→L.length+(l.flatMap g).length≤N→(∀ x∈l,∀ fm L,inv fm→L.length+(g x).length≤N→∃ fm1 fm2,asgT fm t (f x)=some fm1∧inv fm2∧((p x=true∧exb fm1 (St L)=some (.next,fm2,St (L++g x)))∨(p x=false∧∃ H',exb fm1 (St L)=some (.ret v,fm2,H')))) →
  ∃ fm',inv fm'∧((l.all p=true∧forIt exb t (l.map f) fm (St L)=some (.next,fm',St (L++l.flatMap g)))∨(l.all p=false∧∃ H',forIt exb t (l.map f) fm (St L)=some (.ret v,fm',H'))):=by
 induction l with
 | nil=>exact fun {fm L} hi _ _=>⟨fm,hi,.inl ⟨rfl,by rw [List.flatMap_nil,List.append_nil];rfl⟩⟩
 | cons x r ih =>
  intro fm L hi hN h
  rw [List.flatMap_cons,List.length_append,← Nat.add_assoc] at hN
  obtain ⟨fm1,fm2,h1,h3,h2⟩:=h x (List.mem_cons_self ..) fm L hi (Nat.le_trans (Nat.le_add_right _ _) hN)
  rw [List.all_cons]
  rcases h2 with ⟨hp,h2⟩ | ⟨hp,H',h2⟩
  ·obtain ⟨fm',i1,i2⟩:=ih (L:=L++g x) h3 (by rw [List.length_append];exact hN) fun y hy=>h y (List.mem_cons_of_mem _ hy)
   refine ⟨fm',i1,?_⟩
   rw [hp,Bool.true_and,List.flatMap_cons,← List.append_assoc,show forIt exb t ((x::r).map f) fm (St L)=forIt exb t (r.map f) fm2 (St (L++g x)) from ob_u (fun fm=>ob3 (exb fm _) fun f' fm H=>flr f' (forIt exb t (r.map f) fm H) fun r=>some (.ret r,fm,H)) h1 rfl (ob3_s h2 rfl)]
   exact i2
  ·exact ⟨fm2,h3,.inr ⟨by rw [hp];rfl,H',ob_u (fun fm=>ob3 (exb fm _) fun f' fm H=>flr f' (forIt exb t (r.map f) fm H) fun r=>some (.ret r,fm,H)) h1 rfl (ob3_s h2 rfl)⟩⟩
theorem chain_run:(List.range 10).map (fun x=>runT opq0.toOpqE [] 100 k__law_chain 6 false [sN x])=mapB (fun x=>some (.dat (lotV (upN x)))) (List.range 10):=by kernel_rfl
theorem kind_run:lotL.map (fun l=>runT opq0.toOpqE [] 60 k__law_kind 4 false [lotV l])=mapB (fun l=>some (.dat (kd l))) lotL:=by kernel_rfl
noncomputable def sgC (k:Nat):List LE:=[⟨k__law_kind,4,false,(List.range k).map fun t=>([.opq t],.opq (10+t))⟩]
noncomputable def sgW (k:Nat):DV:=tuD ((List.range k).map fun t=>.opq (10+t))
theorem sig_run:∀ k∈[1,2,3],runT inE (sgC k) 60 k__law_sig 6 false [.lst (toks k)]=some (.dat (sgW k)):=cons_mem (by kernel_rfl) (cons_mem (by kernel_rfl) (one_mem (by kernel_rfl)))
section
variable {w:World} {h:Heap} {K:Frag} {φb:Nat→Option Addr}
theorem chain_t (E:Wd h K) {x:Nat} (hx:x < 10):FT w h K φb k__law_chain 6 false [sN x] (lotV (upN x)):=by
 have r:FT w h K φb k__law_chain 6 false [sN x] (subD .opq (lotV (upN x))):=layerT (I:=opq0) (ds:=[sN x]) E noT_ok (mem_at chain_run (List.mem_range.mpr hx))
 rwa [sub_id] at r
theorem kind_t (E:Wd h K) {l:List Nat} (hl:l∈lotL):FT w h K φb k__law_kind 4 false [lotV l] (kd l):=by
 have r:FT w h K φb k__law_kind 4 false [subD .opq (lotV l)] (subD .opq (kd l)):=layerT (I:=opq0) (ds:=[lotV l]) E noT_ok (mem_at kind_run hl)
 rwa [sub_id,sub_id] at r
noncomputable def sgD (cs:List (List Nat)) (t:Nat):DV:=cond (Nat.blt t 10) (lotV (lotAt cs t)) (kd (lotAt cs (t - 10)))
theorem sgD_tk {cs:List (List Nat)} (h:Lots cs) (t:Nat):Tk (sgD cs t):=by
 unfold sgD
 cases Nat.blt t 10 with
 | true=>exact lotV_tk _
 | false=>exact lot_tk (lotAt_lot h _)
theorem sig_t (E:Wd h K) {cs:List (List Nat)} (hc:SigP cs):FT w h K φb k__law_sig 6 false [rowV cs] (sigK cs):=by
 have lo:∀ {t},t < cs.length→sgD cs t=lotV (lotAt cs t):=fun ht=>by
  unfold sgD;rw [show Nat.blt _ 10=true from Nat.ble_eq_true_of_le (Nat.le_trans ht (Nat.le_trans (k3 hc.len) (by decide)))];rfl
 have hi:∀ t,sgD cs (10+t)=kd (lotAt cs t):=fun t=>by
  have:Nat.blt (10+t) 10=false:=Bool.eq_false_iff.mpr fun e=>Nat.not_succ_le_self 10 (Nat.le_trans (Nat.succ_le_succ (Nat.le_add_right 10 t)) (Nat.le_of_ble_eq_true e))
  unfold sgD;rw [this,Nat.add_sub_cancel_left];rfl
 have c:ConOK w h K φb (fnI _ (sgD_tk hc.l)) (conT (sgC cs.length)):=conT_ok (one_mem ⟨rfl,fun x hx=>by
  obtain ⟨t,ht,rfl⟩:=List.mem_map.mp hx
  show FT w h K φb k__law_kind 4 false [sgD cs t] (sgD cs (10+t))
  rw [lo (List.mem_range.mp ht),hi]
  exact kind_t E (lotAt_lot hc.l t)⟩)
 have r:FT w h K φb k__law_sig 6 false [.lst (subDL (sgD cs) (toks cs.length))] (subD (sgD cs) (sgW cs.length)):=layerT (ds:=[.lst (toks cs.length)]) E c (sig_run _ hc.len)
 have e1:subDL (sgD cs) (toks cs.length)=cs.map lotV:=(subDL_map ..).trans (range_map fun e=>(lo (List.getElem?_eq_some_iff.mp e).1).trans (congrArg lotV (getD_at e)))
 have e2:subD (sgD cs) (sgW cs.length)=sigK cs:=sub_tu (f:=fun t=>10+t) fun e=>(hi _).trans (congrArg kd (getD_at e))
 rwa [e1,e2] at r
end
end
noncomputable def chC:List LE:=[⟨k__law_chain,6,false,(List.range 10).map fun x=>([sN x],lotV (upN x))⟩]
noncomputable abbrev sX (x:Nat):AV:=.dat (sN x)
noncomputable def inSc:Sc:=[(0,.local),(91,.local),(246,.globalImplicit),(1,.free)]
noncomputable def inFm (x y d:Nat):Fm:=⟨inSc,[(1,sX x),(91,sX y)],d⟩
noncomputable def names100:List (Nat×Nat):=allP 10
theorem n100 {x y:Nat} (hx:x < 10) (hy:y < 10):(x,y)∈names100:=allP_mem hx hy
theorem in_cd (n a b c d e:Nat) (ho:Hp):names100.map (fun p=>(oT chC (n+4)).cd (inFm p.1 p.2 10) (.cmp .In (.var 91 a) (.call (.glob 246 b) [.var 1 c] d) e) ho)=mapB (fun p=>some (leN p.1 p.2,ho)) names100:=by kernel_rfl
theorem in_y (n x y m:Nat) (H:Hp):(oT chC (n+4)).ev (inFm x y 10) (.var 91 m) H=some (sX y,H):=by kernel_rfl
theorem sX_datL (l:List Nat):datL (l.map sN)=l.map sX:=datL_mapF _ _
theorem in_ev {fm:Fm} {x:Nat} {gs:List Nat} {it:MX} {n a a2 b c d e m m2:Nat} {H:Hp} (hx:x < 10) (hg:NamesP gs) (hl:gs.length≤1000) (hok:(distN (inSc.map (·.1))&&freeOK fm.sc inSc)=true) (hit:items itN (oT chC (n+4)) fm (.var 91 a2) it H=some (gs.map sX,H)) (hfr:freeVars inSc fm.vars=[(1,sX x)]) (hd:fm.dep=10) :
  (oT chC (n+5)).ev fm (.comp (.var 91 m) [.gen (.var 91 a2) it [.cmp .In (.var 91 a) (.call (.glob 246 b) [.var 1 c] d) e]] inSc m2) H=some (.dat (lotV (gs.filter (leN x))),H):=by
 refine ev_comp (out:=(gs.filter (leN x)).map sX) (comp_v hok hit (compIt_map (f:=sX) (g:=sX) (p:=leN x) ?_ fun y hy=>⟨inFm x y 10,?_,cds_1 (mem_at (in_cd n a b c d e H) (n100 hx (hg y hy))),fun _=>comp_e (in_y n x y m H)⟩) ?_) ?_
 ·rw [hfr];rfl
 ·rw [hfr,hd];rfl
 ·rw [List.length_map]
  exact Nat.le_trans (List.length_filter_le _ _) (Nat.le_trans hl (by decide))
 ·rw [← sX_datL];exact allDat_datL _
structure RowP (cs:List (List Nat)):Prop where
 n:cs.length≤10
 p:∀ c∈cs,NamesP c∧c.length≤100
theorem items_var {oq:OpqE} {n:Nat} {C:Cfg} {fm:Fm} {t:MX} {i p:Nat} {l:List Nat} {H:Hp} (h:(ops itN C n).ev fm (.var i p) H=some (.dat (lotV l),H)):items itN (ops itN C n) fm t (.var i p) H=some (l.map sX,H):=by
 rw [← sX_datL]
 exact ob2_u (fun v H=>ob (froz v) fun x=>some (x,H)) h rfl rfl
theorem undS_zip {cs:List (List Nat)}:∀ {ds:List (List Nat)},undS cs ds=(Nat.beq cs.length ds.length&&(List.zip cs ds).all fun p=>belL p.1 p.2):=by
 induction cs with
 | nil=>exact fun {ds}=>by cases ds <;> rfl
 | cons a l ih =>
  intro ds
  cases ds with
  | nil=>rfl
  | cons b r =>
   show (belL a b&&undS l r)=(Nat.beq l.length r.length&&(belL a b&&(List.zip l r).all fun p=>belL p.1 p.2))
   rw [ih]
   cases belL a b <;> cases Nat.beq l.length r.length <;> rfl
theorem filter_any (p:Nat→Bool) (l:List Nat):(l.filter p).isEmpty=!l.any p:=by
 induction l with
 | nil=>rfl
 | cons a r ih =>
  rw [List.filter_cons,List.any_cons]
  cases p a with
  | true=>rfl
  | false=>exact ih
theorem belL_filter (a b:List Nat):(a.filter fun x=>!b.any (leN x)).isEmpty=belL a b:=by
 rw [filter_any]
 unfold belL
 induction a with
 | nil=>rfl
 | cons x r ih =>
  rw [List.any_cons,List.all_cons,← ih]
  show _=(b.any (leN x)&&_)
  cases b.any (leN x) <;> rfl
theorem map_emp (l:List Nat):(l.map sN).isEmpty=l.isEmpty:=by cases l <;> rfl
noncomputable def unSc:Sc:=[(0,.local),(1,.cell),(82,.free)]
noncomputable def unF (cs ds:List (List Nat)) (r:List (Nat×AV)):Fm:=⟨f__law_under.sc,(44,.dat (rowV cs))::(92,.dat (rowV ds))::r,10⟩
noncomputable abbrev unR (a b:List Nat):List (Nat×AV):=[(247,.dat (lotV a)),(82,.dat (lotV b))]
noncomputable def cmpL (x:MX):MX:=MX.casesOn x (fun _ _=>x) (fun _ _=>x) (fun _ _=>x) (fun _ _ _=>x) (fun _ _ _ _=>x) (fun _ _=>x) (fun _ _=>x) (fun _ _ _ _=>x) (fun _ _ _=>x) (fun _ _=>x) (fun _ _ _=>x) (fun _ l _ _=>l) (fun _ _ _=>x) (fun _ _ _ _ _ _=>x) (fun _ _ _ _ _=>x) (fun _ _ _=>x) (fun _ _ _=>x) (fun _ _ _ _ _ _=>x) (fun _ _ _ _=>x) (fun _ _ _=>x) (fun _=>x)
noncomputable def unL:MS:=mS b__law_under 1
noncomputable def unOut:MX:=cmpL (itS (mS (bodyS unL) 0))
theorem filt_le {p:Nat→Bool} {l:List Nat} {n m:Nat} (h:l.length≤n) (hm:n≤m):((l.filter p).map sX).length≤m:=by rw [List.length_map];exact Nat.le_trans (List.length_filter_le _ _) (Nat.le_trans h hm)
theorem lot_nil [OpqE] (B:List AO) (H:Hp) (l:List Nat):cmpOpV B .Eq H (.dat (lotV l)) (.dat (.lst []))=some l.isEmpty:=by
 rw [← map_emp];exact cmp_nil_eq B H (Nat.le_trans (Nat.le_of_succ_le_succ (lotV_dep l)) (by decide))
theorem lot_nnil [OpqE] (B:List AO) (H:Hp) (l:List Nat):cmpOpV B .NotEq H (.dat (lotV l)) (.dat (.lst []))=some (!l.isEmpty):=by
 rw [← map_emp];exact cmp_nil_ne B H (Nat.le_trans (Nat.le_of_succ_le_succ (lotV_dep l)) (by decide))
section
section
variable {cs ds:List (List Nat)} {a b:List Nat}
theorem un_out (ha:NamesP a) (hb:NamesP b) (la:a.length≤100) (lb:b.length≤100):(oT chC 53).ev (unF cs ds (unR a b)) unOut []=some (.dat (lotV (a.filter fun x=>!b.any (leN x))),[]):=by
 refine ev_comp (out:=(a.filter fun x=>!b.any (leN x)).map sX) (comp_v (vs:=a.map sX) (H1:=[]) (by rfl) (items_var (by kernel_rfl)) (compIt_map (f:=sX) (g:=sX) (p:=fun x=>!b.any (leN x)) rfl fun x hx=>⟨⟨unSc,[(82,.dat (lotV b)),(1,sX x)],10⟩,rfl,cds_1 (cd_cmp (in_ev (ha x hx) hb (Nat.le_trans lb (by decide)) rfl (items_var (by kernel_rfl)) rfl rfl) (b:=.dat (.lst [])) (by kernel_rfl) ?_),fun _=>comp_e (by kernel_rfl)⟩) (filt_le la (by decide))) (by rw [← sX_datL];exact allDat_datL _)
 rw [← filter_any]
 exact @lot_nil inE _ _ _
theorem un_it:items itN (oT chC 55) (unF cs ds []) (.tup [(.var 247 796008796013),(.var 82 796015796020)] 0 796008796020) (itS unL) []=some ((List.zip cs ds).map fun p=>.dat (.tup [lotV p.1,lotV p.2]),[]):=by
 rw [← pairUp_zip]
 kernel_rfl
theorem row_len' (h:cs.length≤10) (H:Hp):lenV H (.dat (rowV cs))=some (cs.length:Int):=by
 have:=lenV_lst (H:=H) (l:=cs.map lotV) (by rw [List.length_map];exact Nat.le_trans h (by decide))
 rwa [List.length_map] at this
theorem un_len (h1:cs.length≤10) (h2:ds.length≤10):(oT chC 55).cd (unF cs ds []) (.cmp .NotEq (.call (.glob 16 794007794010) [(.var 44 794011794014)] 794007794015) (.call (.glob 16 794019794022) [(.var 92 794023794028)] 794019794029) 794007794029) []=some (!Nat.beq cs.length ds.length,[]):=by
 refine cd_cmp (ev_len (v:=.dat (rowV cs)) (k:=cs.length) rfl (by kernel_rfl) (by kernel_rfl) (row_len' h1 _)) (ev_len (v:=.dat (rowV ds)) (k:=ds.length) rfl (by kernel_rfl) (by kernel_rfl) (row_len' h2 _)) ?_
 refine (@cmp_int_ne inE _ _ _ _).trans (congrArg (fun b=>some (!b)) ?_)
 rcases beq_cases cs.length ds.length with ⟨q,e⟩ | ⟨q,e⟩
 ·rw [q,e];exact beq_self_eq_true _
 ·rw [q];exact beq_eq_false_iff_ne.mpr fun z=>e (Int.ofNat.inj z)
end
end
theorem under_run {cs ds:List (List Nat)} (hc:RowP cs) (hd:RowP ds):runT inE chC 56 k__law_under 10 false [rowV cs,rowV ds]=some (.dat (bD (undS cs ds))):=by
 have h1:=un_len hc.n hd.n
 have go:∀ {t r},exs (oT chC 56).ex (unF cs ds []) [.ifs (.cmp .NotEq (.call (.glob 16 794007794010) [(.var 44 794011794014)] 794007794015) (.call (.glob 16 794019794022) [(.var 92 794023794028)] 794019794029) 794007794029) [(.ret (.const (.bool false) 795015795020) 795008795020)] [] 794004795020,unL,mS b__law_under 2] []=some (.ret (.dat (bD t)),unF cs ds r,[])→runT inE chC 56 k__law_under 10 false [rowV cs,rowV ds]=some (.dat (bD t)):=fun e =>
  runF_r (fi:=f__law_under) (bs:=[(44,.dat (rowV cs)),(92,.dat (rowV ds))]) (by kernel_rfl) (by kernel_rfl) e rfl
 rw [undS_zip]
 cases q:Nat.beq cs.length ds.length with
 | false =>
  rw [q] at h1
  exact go (t:=false) (r:=[]) (exs_r (ex_ifs h1 (exs_r (ex_ret (by kernel_rfl)))))
 | true =>
  rw [q] at h1
  obtain ⟨fm',⟨r,_,rfl⟩,o2⟩:=forIt_all (H:=[]) (exb:=fun fm H=>exs (oT chC 55).ex fm (bodyS unL) H) (t:=.tup [(.var 247 796008796013),(.var 82 796015796020)] 0 796008796020) (f:=fun p:LL=>AV.dat (.tup [lotV p.1,lotV p.2])) (p:=fun p=>belL p.1 p.2) (v:=.dat (bD false)) (fun fm=>∃ r,(r=[]∨∃ a b,r=unR a b)∧fm=unF cs ds r) (l:=List.zip cs ds) (fm:=unF cs ds []) ⟨[],.inl rfl,rfl⟩ fun x hx fm hf=>by
   obtain ⟨m1,m2⟩:=List.of_mem_zip (a:=x.1) (b:=x.2) hx
   obtain ⟨a1,a2⟩:=hc.p _ m1
   obtain ⟨b1,b2⟩:=hd.p _ m2
   obtain ⟨r,h,rfl⟩:=hf
   refine ⟨unF cs ds (unR x.1 x.2),unF cs ds (unR x.1 x.2),?_,?_,_,.inr ⟨_,_,rfl⟩,rfl⟩
   ·rcases h with rfl | ⟨y,z,rfl⟩ <;> rfl
   ·have hb:(oT chC 54).cd (unF cs ds (unR x.1 x.2)) (.cmp .NotEq unOut (.lst [] 797101797103) 797011797103) []=some (!belL x.1 x.2,[]):=by
     refine cd_cmp (un_out a1 b1 a2 b2) (b:=.dat (.lst [])) (by kernel_rfl) ?_
     rw [← belL_filter]
     exact @lot_nnil inE _ _ _
    show exs (oT chC 55).ex _ [(.ifs (.cmp .NotEq unOut (.lst [] 797101797103) 797011797103) [(.ret (.const (.bool false) 798019798024) 798012798024)] [] 797008798024)] _=_
    cases z:belL x.1 x.2 with
    | true=>rw [z] at hb;exact exs_n (ex_ifs hb rfl) rfl
    | false=>rw [z] at hb;exact exs_r (ex_ifs hb (exs_r (ex_ret (by kernel_rfl))))
  rw [Bool.true_and]
  cases z:(List.zip cs ds).all fun p=>belL p.1 p.2 with
  | true=>rw [z] at o2;exact go (t:=true) (r:=r) (exs_n (ex_ifs h1 rfl) (exs_n (ex_for un_it o2) (exs_r (ex_ret (by kernel_rfl)))))
  | false=>rw [z] at o2;exact go (t:=false) (r:=r) (exs_n (ex_ifs h1 rfl) (exs_r (ex_for un_it o2)))
noncomputable def part1 (a b:List Nat):List Nat:=a.filter fun x=>b.any (leN x)
noncomputable def part2 (p a b:List Nat):List Nat:=b.filter fun x=>!memN p x&&a.any (leN x)
theorem memN_eq {l m:List Nat} {x:Nat} (h:x∈l↔x∈m):memN l x=memN m x:=Bool.eq_iff_iff.mpr ⟨fun q=>mem_memN (h.mp (memN_mem q)),fun q=>mem_memN (h.mpr (memN_mem q))⟩
theorem part_eq {a b:List Nat} (hb:NamesP b):part1 a b++part2 (part1 a b) a b=partL a b:=by
 unfold partL part1 part2
 refine congrArg ((a.filter fun x=>b.any (leN x))++·) (List.filter_congr fun x hx=>?_)
 have r:b.any (leN x)=true:=List.any_eq_true.mpr ⟨x,hx,List.all_eq_true.mp leN_refl x (List.mem_range.mpr (hb x hx))⟩
 rw [memN_eq (List.mem_filter.trans ⟨fun h=>h.1,fun h=>⟨h,r⟩⟩:x∈(a.filter fun x=>b.any (leN x))↔x∈a)]
section
noncomputable def lbF (cs ds:List (List Nat)) (r:List (Nat×AV)):Fm:=⟨f__law_both.sc,(44,.dat (rowV cs))::(92,.dat (rowV ds))::r,10⟩
noncomputable def lbL:MS:=mS b__law_both 2
noncomputable def lbC1:MX:=itS (mS (bodyS lbL) 0)
noncomputable def lbC2:MX:=(binP (itS (mS (bodyS lbL) 1))).2
noncomputable def lbSc1:Sc:=[(0,.local),(1,.cell),(136,.free)]
noncomputable def lbSc2:Sc:=[(0,.local),(1,.cell),(247,.free),(34,.free)]
theorem lot_any (B:List AO) (H:Hp) (l:List Nat) (p:Nat→Bool):@cmpOpV inE B .NotEq H (.dat (lotV (l.filter p))) (.dat (.lst []))=some (l.any p):=by
 rw [@lot_nnil inE,filter_any,Bool.not_not]
section
variable {a b:List Nat} {cs ds:List (List Nat)} {H:Hp}
theorem lb_c1 (ha:NamesP a) (hb:NamesP b) (la:a.length≤100) (lb:b.length≤100) {r:List (Nat×AV)} (h2:freeVars lbSc1 (lbF cs ds ((7,.loc 0)::(247,.dat (lotV a))::(136,.dat (lotV b))::r)).vars=[(136,.dat (lotV b))]):(oT chC 55).ev (lbF cs ds ((7,.loc 0)::(247,.dat (lotV a))::(136,.dat (lotV b))::r)) lbC1 H=some (.dat (lotV (part1 a b)),H):=by
 refine ev_comp (out:=(part1 a b).map sX) (comp_v (vs:=a.map sX) (H1:=H) (by rfl) (items_var (by kernel_rfl)) (compIt_map (f:=sX) (g:=sX) (p:=fun x=>b.any (leN x)) ?_ fun x hx=>⟨⟨lbSc1,[(136,.dat (lotV b)),(1,sX x)],10⟩,?_,cds_1 (cd_cmp (in_ev (ha x hx) hb (Nat.le_trans lb (by decide)) rfl (items_var (by kernel_rfl)) rfl rfl) (b:=.dat (.lst [])) (by kernel_rfl) (lot_any _ _ _ _)),fun _=>comp_e (by kernel_rfl)⟩) (filt_le la (by decide))) (by rw [← sX_datL];exact allDat_datL _)
 ·unfold lbSc1 at h2;rw [h2];rfl
 ·unfold lbSc1 at h2;rw [h2];rfl
theorem lb_in {p:List Nat} {x:Nat} (hx:x < 10) (hp:NamesP p):@cmpOpV inE base1 .NotIn H (sX x) (.dat (lotV p))=some (!memN p x):=by
 have e:@inL inE (sX x) (p.map sN)=some (memN p x):=ob_u (fun d=>gb (le (depD d) 64&&le (depL (p.map sN)) 64) (@anyEqO inE d (p.map sN))) rfl rfl (gb_u (@anyEqO inE (sN x) (p.map sN)) ((Bool.and_eq_true ..).mpr ⟨rfl,Nat.ble_eq_true_of_le (Nat.le_trans (Nat.le_of_succ_le_succ (lotV_dep p)) (Nat.zero_le _))⟩) rfl (anyEq_names hx hp))
 have e2:@inV inE base1 H (sX x) (.dat (lotV p))=some (memN p x):=by
  show alt none (alt none (ob (allDat (datL (p.map sN))) (@inL inE (sX x))))=_
  rw [allDat_datL];exact e
 exact ob_u (fun b=>some (!b)) e2 rfl rfl
theorem lb_c2 (ha:NamesP a) (hb:NamesP b) (la:a.length≤100) (lb:b.length≤100) {p:List Nat} (hp:NamesP p):(oT chC 54).ev (lbF cs ds [(7,.loc 0),(247,.dat (lotV a)),(136,.dat (lotV b)),(34,.dat (lotV p))]) lbC2 H=some (.dat (lotV (part2 p a b)),H):=by
 refine ev_comp (out:=(part2 p a b).map sX) (comp_v (vs:=b.map sX) (H1:=H) (by rfl) (items_var (by kernel_rfl)) (compIt_map (f:=sX) (g:=sX) (p:=fun x=>!memN p x&&a.any (leN x)) rfl fun x hx=>⟨⟨lbSc2,[(247,.dat (lotV a)),(34,.dat (lotV p)),(1,sX x)],10⟩,rfl,cds_1 (cd_bop (bopC_c (H1:=H) (cd_cmp (H1:=H) (H2:=H) (a:=sX x) (b:=.dat (lotV p)) (by kernel_rfl) (by kernel_rfl) (lb_in (hb x hx) hp)) (fun e=>?_) fun e=>?_)),fun _=>comp_e (by kernel_rfl)⟩) (filt_le lb (by decide))) (by rw [← sX_datL];exact allDat_datL _)
 ·rw [e,Bool.true_and]
  refine bopC_c (cd_cmp (in_ev (hb x hx) ha (Nat.le_trans la (by decide)) rfl (items_var (by kernel_rfl)) rfl rfl) (b:=.dat (.lst [])) (by kernel_rfl) (lot_any _ _ _ _)) (fun e=>?_) fun _=>rfl
  rw [bopC_n,e]
 ·rw [Bool.eq_false_iff.mpr e];rfl
end
end
section
noncomputable def lbT:MX:=.tup [(.var 247 806008806013),(.var 136 806015806021)] 0 806008806021
section
variable {cs ds:List (List Nat)} {H:Hp}
theorem lb_it:items itN (oT chC 56) (lbF cs ds [(7,.loc 0)]) lbT (itS lbL) H=some ((List.zip cs ds).map fun p=>.dat (.tup [lotV p.1,lotV p.2]),H):=by
 rw [← pairUp_zip]
 kernel_rfl
theorem lb_len (h1:cs.length≤10) (h2:ds.length≤10):(oT chC 56).cd (lbF cs ds []) (.cmp .NotEq (.call (.glob 16 803007803010) [(.var 44 803011803014)] 803007803015) (.call (.glob 16 803019803022) [(.var 92 803023803028)] 803019803029) 803007803029) []=some (!Nat.beq cs.length ds.length,[]):=by
 refine cd_cmp (ev_len (v:=.dat (rowV cs)) (k:=cs.length) rfl (by kernel_rfl) (by kernel_rfl) (row_len' h1 _)) (ev_len (v:=.dat (rowV ds)) (k:=ds.length) rfl (by kernel_rfl) (by kernel_rfl) (row_len' h2 _)) ?_
 refine (@cmp_int_ne inE _ _ _ _).trans (congrArg (fun b=>some (!b)) ?_)
 rcases beq_cases cs.length ds.length with ⟨q,e⟩ | ⟨q,e⟩
 ·rw [q,e];exact beq_self_eq_true _
 ·rw [q];exact beq_eq_false_iff_ne.mpr fun z=>e (Int.ofNat.inj z)
end
noncomputable def hasP (p:LL):Bool:=!(partL p.1 p.2).isEmpty
noncomputable def bothL (cs ds:List (List Nat)):List (List Nat):=(List.zip cs ds).map fun p=>partL p.1 p.2
noncomputable def bothB (cs ds:List (List Nat)):Bool:=Nat.beq cs.length ds.length&&(List.zip cs ds).all hasP
noncomputable def bothD (cs ds:List (List Nat)):DV:=cond (bothB cs ds) (rowV (bothL cs ds)) .none
end
noncomputable abbrev lbR (a b:List Nat) (r:List (Nat×AV)):List (Nat×AV):=(7,.loc 0)::(247,.dat (lotV a))::(136,.dat (lotV b))::r
theorem lb_step {cs ds:List (List Nat)} {a b:List Nat} (ha:NamesP a) (hb:NamesP b) (la:a.length≤100) (lb:b.length≤100) {L:List AV} (hL:L.length+1≤10000) {r:List (Nat×AV)} (hr:r=[]∨∃ c,r=[(34,c)]) :
  (hasP (a,b)=true∧exs (oT chC 56).ex (lbF cs ds (lbR a b r)) (bodyS lbL) [.list L]=some (.next,lbF cs ds (lbR a b [(34,.dat (lotV (partL a b)))]),[.list (L++[.dat (lotV (partL a b))])]))∨(hasP (a,b)=false∧∃ H',exs (oT chC 56).ex (lbF cs ds (lbR a b r)) (bodyS lbL) [.list L]=some (.ret (.dat .none),lbF cs ds (lbR a b [(34,.dat (lotV (partL a b)))]),H')):=by
 have hp:NamesP (part1 a b):=fun x hx=>ha x (List.mem_filter.mp hx).1
 have s1:(oT chC 56).ex (lbF cs ds (lbR a b r)) (.asg (.var 34 807008807012) lbC1 807008807102) [.list L]=some (.next,lbF cs ds (lbR a b [(34,.dat (lotV (part1 a b)))]),[.list L]):=by
  rcases hr with rfl | ⟨c,rfl⟩
  ·exact ex_asg (lb_c1 ha hb la lb rfl) rfl
  ·exact ex_asg (lb_c1 ha hb la lb rfl) rfl
 have s2:(oT chC 56).ex (lbF cs ds (lbR a b [(34,.dat (lotV (part1 a b)))])) (.asg (.var 34 808008808012) (.bin .Add (.var 34 808015808019) lbC2 808015808130) 808008808130) [.list L]=some (.next,lbF cs ds (lbR a b [(34,.dat (lotV (partL a b)))]),[.list L]):=by
  refine ex_asg (ev_binL (H1:=[.list L]) (a:=.dat (lotV (part1 a b))) (x:=datL ((part1 a b).map sN)++datL ((part2 (part1 a b) a b).map sN)) (by kernel_rfl) (lb_c2 ha hb la lb hp) ?_ ?_) rfl
  ·exact gb_u (some (Res.newl (datL ((part1 a b).map sN)++datL ((part2 (part1 a b) a b).map sN)))) (Nat.ble_eq_true_of_le (by rw [sX_datL,sX_datL];exact Nat.le_trans (Nat.add_le_add (filt_le la (Nat.le_refl _)) (filt_le lb (Nat.le_refl _))) (by decide))) rfl rfl
  ·rw [← datL_app,← List.map_append,part_eq hb];exact allDat_datL _
 have s3:(oT chC 55).cd (lbF cs ds (lbR a b [(34,.dat (lotV (partL a b)))])) (.cmp .Eq (.var 34 809011809015) (.lst [] 809019809021) 809011809021) [.list L]=some ((partL a b).isEmpty,[.list L]):=cd_cmp (H1:=[.list L]) (a:=.dat (lotV (partL a b))) (b:=.dat (.lst [])) (by kernel_rfl) (by kernel_rfl) (@lot_nil inE _ _ _)
 show (_∧exs (oT chC 56).ex _ [.asg (.var 34 807008807012) lbC1 807008807102,.asg (.var 34 808008808012) (.bin .Add (.var 34 808015808019) lbC2 808015808130) 808008808130,.ifs (.cmp .Eq (.var 34 809011809015) (.lst [] 809019809021) 809011809021) [(.ret (.const .none 810019810023) 810012810023)] [] 809008810023,.exp (.meth (.var 7 811008811013) 14 [(.var 34 811021811025)] 811008811020 811008811026) 811008811026] _=_)∨(_∧∃ H',exs (oT chC 56).ex _ [.asg (.var 34 807008807012) lbC1 807008807102,.asg (.var 34 808008808012) (.bin .Add (.var 34 808015808019) lbC2 808015808130) 808008808130,.ifs (.cmp .Eq (.var 34 809011809015) (.lst [] 809019809021) 809011809021) [(.ret (.const .none 810019810023) 810012810023)] [] 809008810023,.exp (.meth (.var 7 811008811013) 14 [(.var 34 811021811025)] 811008811020 811008811026) 811008811026] _=_)
 unfold hasP
 cases q:(partL a b).isEmpty with
 | true =>
  rw [q] at s3
  exact .inr ⟨rfl,[.list L],exs_n s1 (exs_n s2 (exs_r (ex_ifs s3 (exs_r (ex_ret (by kernel_rfl))))))⟩
 | false =>
  rw [q] at s3
  exact .inl ⟨rfl,exs_n s1 (exs_n s2 (exs_n (ex_ifs s3 rfl) (exs_n (ex_app (k:=0) (L:=L) (v:=.dat (lotV (partL a b))) (by kernel_rfl) (by kernel_rfl) (by kernel_rfl) (by kernel_rfl) rfl hL) rfl)))⟩
theorem both_run {cs ds:List (List Nat)} (hc:RowP cs) (hd:RowP ds):runT inE chC 57 k__law_both 10 false [rowV cs,rowV ds]=some (.dat (bothD cs ds)):=by
 have h1:=lb_len hc.n hd.n
 have go:∀ {v v' fm' H'},exs (oT chC 57).ex (lbF cs ds []) [.ifs (.cmp .NotEq (.call (.glob 16 803007803010) [(.var 44 803011803014)] 803007803015) (.call (.glob 16 803019803022) [(.var 92 803023803028)] 803019803029) 803007803029) [(.ret (.const .none 804015804019) 804008804019)] [] 803004804019,mS b__law_both 1,lbL,mS b__law_both 3] []=some (.ret v,fm',H')→frozen v H'=some v'→runT inE chC 57 k__law_both 10 false [rowV cs,rowV ds]=some v':=fun e k =>
  runF_r (fi:=f__law_both) (bs:=[(44,.dat (rowV cs)),(92,.dat (rowV ds))]) (by kernel_rfl) (by kernel_rfl) e k
 unfold bothD bothB
 cases q:Nat.beq cs.length ds.length with
 | false =>
  rw [q] at h1
  exact go (v:=.dat .none) (H':=[]) (exs_r (ex_ifs h1 (exs_r (ex_ret (by kernel_rfl))))) rfl
 | true =>
  rw [q] at h1
  obtain ⟨fm',⟨r,_,rfl⟩,o2⟩:=forIt_accr (exb:=fun fm H=>exs (oT chC 56).ex fm (bodyS lbL) H) (t:=lbT) (f:=fun p:LL=>AV.dat (.tup [lotV p.1,lotV p.2])) (p:=hasP) (g:=fun p=>[.dat (lotV (partL p.1 p.2))]) (N:=10000) (v:=.dat .none) (fun L=>[.list L]) (fun fm=>∃ r,(r=[]∨∃ a b c,r=[(247,a),(136,b),(34,c)])∧fm=lbF cs ds ((7,.loc 0)::r)) (l:=List.zip cs ds) (fm:=lbF cs ds [(7,.loc 0)]) (L:=[]) ⟨[],.inl rfl,rfl⟩ (by
    rw [flat_one,List.length_map,List.length_zip]
    exact Nat.le_trans (Nat.le_of_eq (Nat.zero_add _)) (Nat.le_trans (Nat.min_le_left _ _) (Nat.le_trans hc.n (by decide)))) fun x hx fm L hf hN=>by
   obtain ⟨m1,m2⟩:=List.of_mem_zip (a:=x.1) (b:=x.2) hx
   obtain ⟨a1,a2⟩:=hc.p _ m1
   obtain ⟨b1,b2⟩:=hd.p _ m2
   obtain ⟨r,h,rfl⟩:=hf
   rcases h with rfl | ⟨y,z,u,rfl⟩
   ·exact ⟨lbF cs ds (lbR x.1 x.2 []),_,rfl,⟨_,.inr ⟨_,_,_,rfl⟩,rfl⟩,lb_step a1 b1 a2 b2 hN (.inl rfl)⟩
   ·exact ⟨lbF cs ds (lbR x.1 x.2 [(34,u)]),_,rfl,⟨_,.inr ⟨_,_,_,rfl⟩,rfl⟩,lb_step a1 b1 a2 b2 hN (.inr ⟨_,rfl⟩)⟩
  have s1:(oT chC 57).ex (lbF cs ds []) (mS b__law_both 1) []=some (.next,lbF cs ds [(7,.loc 0)],[.list []]):=by kernel_rfl
  rw [Bool.true_and]
  rcases o2 with ⟨z,o2⟩ | ⟨z,H',o2⟩
  ·have fl:((List.zip cs ds).map fun p=>AV.dat (lotV (partL p.1 p.2)))=datL ((bothL cs ds).map lotV):=by
    unfold bothL
    rw [datL_mapF,List.map_map];rfl
   rw [z]
   rw [List.nil_append,flat_one,fl] at o2
   exact go (v:=.loc 0) (H':=[.list (datL ((bothL cs ds).map lotV))]) (exs_n (ex_ifs h1 rfl) (exs_n s1 (exs_n (ex_for lb_it o2) (exs_r (ex_ret (v:=.loc 0) (by kernel_rfl)))))) (frozen_loc rfl)
  ·rw [z]
   exact go (v:=.dat .none) (exs_n (ex_ifs h1 rfl) (exs_n s1 (exs_r (ex_for lb_it o2)))) rfl
section
noncomputable def laC (b1 b2:Bool):List LE:=[⟨k__law_under,10,false,[([.opq 0,.opq 1],bD b1),([.opq 1,.opq 0],bD b2)]⟩]
theorem la_run (b1 b2:Bool):runT inE (laC b1 b2) 40 k__law_ahead 12 false [.opq 0,.opq 1]=some (.dat (bD (b1&&!b2))):=by
 cases b1 <;> cases b2 <;> kernel_rfl
noncomputable def ioC (n:Nat) (hb u12 u21:Bool) (uh:Nat→Bool) (ah:Nat→Nat→Bool) (i j:Nat):List LE:=[⟨k__law_both,10,false,[([.opq i,.opq j],cond hb (.opq n) .none)]⟩,
 ⟨k__law_under,10,false,[([.opq i,.opq j],bD u12),([.opq j,.opq i],bD u21)]++(othN n i j).map fun t=>([.opq n,.opq t],bD (uh t))⟩,
 ⟨k__law_ahead,12,false,(othN n i j).map (fun t=>([.opq t,.opq i],bD (ah t i)))++(othN n i j).map fun t=>([.opq t,.opq j],bD (ah t j))⟩]
noncomputable def ioF (n i j:Nat) (r:List (Nat×AV)):Fm:=⟨f__law_is_open.sc,(58,.dat (.lst (toks n)))::(152,iV i)::(153,iV j)::r,14⟩
noncomputable abbrev ioR (i j:Nat) (hv:DV) (r:List (Nat×AV)):List (Nat×AV):=(44,.dat (.opq i))::(92,.dat (.opq j))::(148,.dat hv)::r
noncomputable abbrev ioR1 (i j:Nat):List (Nat×AV):=[(44,.dat (.opq i)),(92,.dat (.opq j))]
noncomputable abbrev ioU (x y:AV):List (Nat×AV):=[(114,x),(150,y)]
noncomputable def ioL:MS:=mS b__law_is_open 3
noncomputable def ioC3:MX:=itS (mS b__law_is_open 2)
noncomputable def ioX (k:Nat):MX:=argB (itS (mS (bodyS ioL) 0)) k
noncomputable def ioT:MX:=.tup [(.var 114 818008818010),(.var 150 818012818017)] 0 818008818017
noncomputable def enV (t:Nat):AV:=.dat (.tup [.int (t:Int),.opq t])
noncomputable abbrev oV (t:Nat):AV:=.dat (.opq t)
noncomputable def trs (n:Nat):List ((Nat×Nat)×Nat):=(prs n).flatMap fun p=>(List.range n).map fun t=>(p,t)
noncomputable def tro (n:Nat):List ((Nat×Nat)×Nat):=(prs n).flatMap fun p=>(othN n p.1 p.2).map fun t=>(p,t)
theorem trs_mem {n:Nat} {p:Nat×Nat} {t:Nat} (hp:p∈prs n) (ht:t < n):(p,t)∈trs n:=List.mem_flatMap.mpr ⟨p,hp,List.mem_map.mpr ⟨t,List.mem_range.mpr ht,rfl⟩⟩
theorem tro_mem {n:Nat} {p:Nat×Nat} {t:Nat} (hp:p∈prs n) (ht:t∈othN n p.1 p.2):(p,t)∈tro n:=List.mem_flatMap.mpr ⟨p,hp,List.mem_map.mpr ⟨t,ht,rfl⟩⟩
theorem n3 {P:Nat→Prop} (h3:P 3) (h4:P 4) (h5:P 5):∀ n∈[3,4,5],P n:=cons_mem h3 (cons_mem h4 (one_mem h5))
noncomputable def hV (n:Nat) (hb:Bool):DV:=cond hb (.opq n) .none
section
variable (hb u12 u21:Bool) (uh:Nat→Bool) (ah:Nat→Nat→Bool)
theorem io_1:∀ n∈[3,4,5],(prs n).map (fun p=>(oT (ioC n hb u12 u21 uh ah p.1 p.2) 50).ex (ioF n p.1 p.2 []) (mS b__law_is_open 0) [])=mapB (fun p=>some (.next,ioF n p.1 p.2 (ioR1 p.1 p.2),[])) (prs n):=n3 (by kernel_rfl) (by kernel_rfl) (by kernel_rfl)
theorem io_2:∀ n∈[3,4,5],(prs n).map (fun p=>(oT (ioC n hb u12 u21 uh ah p.1 p.2) 50).ex (ioF n p.1 p.2 (ioR1 p.1 p.2)) (mS b__law_is_open 1) [])=mapB (fun p=>some (.next,ioF n p.1 p.2 (ioR p.1 p.2 (hV n hb) []),[])) (prs n):=by
 cases hb
 ·exact n3 (by kernel_rfl) (by kernel_rfl) (by kernel_rfl)
 ·exact n3 (by kernel_rfl) (by kernel_rfl) (by kernel_rfl)
theorem io_3:∀ n∈[3,4,5],(prs n).map (fun p=>(oT (ioC n hb u12 u21 uh ah p.1 p.2) 49).cd (ioF n p.1 p.2 (ioR p.1 p.2 (hV n hb) [])) ioC3 [])=mapB (fun p=>some (!hb||(u12||u21),[])) (prs n):=by
 cases hb
 ·exact n3 (by kernel_rfl) (by kernel_rfl) (by kernel_rfl)
 ·cases u12
  ·cases u21
   ·exact n3 (by kernel_rfl) (by kernel_rfl) (by kernel_rfl)
   ·exact n3 (by kernel_rfl) (by kernel_rfl) (by kernel_rfl)
  ·exact n3 (by kernel_rfl) (by kernel_rfl) (by kernel_rfl)
variable (hv:DV)
theorem io_it:∀ n∈[3,4,5],(prs n).map (fun p=>items itN (oT (ioC n hb u12 u21 uh ah p.1 p.2) 49) (ioF n p.1 p.2 (ioR p.1 p.2 hv [])) ioT (itS ioL) [])=mapB (fun p=>some ((List.range n).map enV,[])) (prs n):=n3 (by kernel_rfl) (by kernel_rfl) (by kernel_rfl)
theorem io_x0:∀ n∈[3,4,5],(trs n).map (fun p=>(oT (ioC n hb u12 u21 uh ah p.1.1 p.1.2) 47).cd (ioF n p.1.1 p.1.2 (ioR p.1.1 p.1.2 hv (ioU (iV p.2) (oV p.2)))) (ioX 0) [])=mapB (fun p=>some (!(Nat.beq p.2 p.1.1||Nat.beq p.2 p.1.2),[])) (trs n):=n3 (by kernel_rfl) (by kernel_rfl) (by kernel_rfl)
theorem io_x1:∀ n∈[3,4,5],(tro n).map (fun p=>(oT (ioC n hb u12 u21 uh ah p.1.1 p.1.2) 47).cd (ioF n p.1.1 p.1.2 (ioR p.1.1 p.1.2 (.opq n) (ioU (iV p.2) (oV p.2)))) (ioX 1) [])=mapB (fun p=>some (uh p.2,[])) (tro n):=n3 (by kernel_rfl) (by kernel_rfl) (by kernel_rfl)
theorem io_x2:∀ n∈[3,4,5],(tro n).map (fun p=>(oT (ioC n hb u12 u21 uh ah p.1.1 p.1.2) 47).cd (ioF n p.1.1 p.1.2 (ioR p.1.1 p.1.2 (.opq n) (ioU (iV p.2) (oV p.2)))) (ioX 2) [])=mapB (fun p=>some (ah p.2 p.1.1,[])) (tro n):=n3 (by kernel_rfl) (by kernel_rfl) (by kernel_rfl)
theorem io_x3:∀ n∈[3,4,5],(tro n).map (fun p=>(oT (ioC n hb u12 u21 uh ah p.1.1 p.1.2) 47).cd (ioF n p.1.1 p.1.2 (ioR p.1.1 p.1.2 (.opq n) (ioU (iV p.2) (oV p.2)))) (ioX 3) [])=mapB (fun p=>some (ah p.2 p.1.2,[])) (tro n):=n3 (by kernel_rfl) (by kernel_rfl) (by kernel_rfl)
noncomputable def thirdB (i j t:Nat):Bool:=!(Nat.beq t i||Nat.beq t j)&&(uh t&&(ah t i&&ah t j))
theorem io_cd {n:Nat} (hn:n∈[3,4,5]) {p:Nat×Nat} (hp:p∈prs n) {t:Nat} (ht:t < n):(oT (ioC n hb u12 u21 uh ah p.1 p.2) 48).cd (ioF n p.1 p.2 (ioR p.1 p.2 (.opq n) (ioU (iV t) (oV t)))) (.bop true [ioX 0,ioX 1,ioX 2,ioX 3] 819011819120) []=some (thirdB uh ah p.1 p.2 t,[]):=by
 have e0:=mem_at (io_x0 hb u12 u21 uh ah (.opq n) n hn) (trs_mem hp ht)
 dsimp only at e0
 unfold thirdB
 refine cd_bop (bopC_c e0 (fun e=>?_) fun e=>?_)
 ·have ho:=tro_mem hp (List.mem_filter.mpr ⟨List.mem_range.mpr ht,e⟩:t∈othN n p.1 p.2)
  have e1:=mem_at (io_x1 hb u12 u21 uh ah n hn) ho
  have e2:=mem_at (io_x2 hb u12 u21 uh ah n hn) ho
  have e4:=mem_at (io_x3 hb u12 u21 uh ah n hn) ho
  dsimp only at e1 e2 e4
  rw [e,Bool.true_and]
  have:=bopC_and (fm:=ioF n p.1 p.2 (ioR p.1 p.2 (.opq n) (ioU (iV t) (oV t)))) (H:=[]) (op:=oT (ioC n hb u12 u21 uh ah p.1 p.2) 47) (l:=[(ioX 1,uh t),(ioX 2,ah t p.1),(ioX 3,ah t p.2)]) (cons_mem e1 (cons_mem e2 (one_mem e4)))
  rw [show ([(ioX 1,uh t),(ioX 2,ah t p.1),(ioX 3,ah t p.2)]:List (MX×Bool)).all (·.2)=(uh t&&(ah t p.1&&(ah t p.2&&true))) from rfl,Bool.and_true] at this
  exact this
 ·rw [Bool.eq_false_iff.mpr e];rfl
noncomputable def ioB (n i j:Nat):Bool:=!(!hb||(u12||u21))&&(List.range n).all fun t=>!thirdB uh ah i j t
end
end
theorem io_run (hb u12 u21:Bool) (uh:Nat→Bool) (ah:Nat→Nat→Bool) {n:Nat} (hn:n∈[3,4,5]) {p:Nat×Nat} (hp:p∈prs n):runT inE (ioC n hb u12 u21 uh ah p.1 p.2) 50 k__law_is_open 14 false [.lst (toks n),.int p.1,.int p.2]=some (.dat (bD (ioB hb u12 u21 uh ah n p.1 p.2))):=by
 have h1:=mem_at (io_1 hb u12 u21 uh ah n hn) hp
 have h2:=mem_at (io_2 hb u12 u21 uh ah n hn) hp
 have h3:=mem_at (io_3 hb u12 u21 uh ah n hn) hp
 have go:∀ {t r},exs (oT (ioC n hb u12 u21 uh ah p.1 p.2) 50).ex (ioF n p.1 p.2 (ioR p.1 p.2 (hV n hb) [])) [.ifs ioC3 [(.ret (.const (.bool false) 817015817020) 817008817020)] [] 816004817020,ioL,mS b__law_is_open 4] []=some (.ret (.dat (bD t)),ioF n p.1 p.2 r,[])→runT inE (ioC n hb u12 u21 uh ah p.1 p.2) 50 k__law_is_open 14 false [.lst (toks n),.int p.1,.int p.2]=some (.dat (bD t)):=fun e =>
  runF_r (fi:=f__law_is_open) (bs:=[(58,.dat (.lst (toks n))),(152,iV p.1),(153,iV p.2)]) (by kernel_rfl) (by kernel_rfl) (exs_n h1 (exs_n h2 e)) rfl
 unfold ioB
 cases q:!hb||(u12||u21) with
 | true =>
  rw [q] at h3
  exact go (exs_r (ex_ifs h3 (exs_r (ex_ret (by kernel_rfl)))))
 | false =>
  rw [q] at h3
  have hbt:hb=true:=by cases hb with | true=>rfl | false=>exact nft q.symm
  subst hbt
  obtain ⟨fm',⟨r,_,rfl⟩,o2⟩:=forIt_all (H:=[]) (exb:=fun fm H=>exs (oT (ioC n true u12 u21 uh ah p.1 p.2) 49).ex fm (bodyS ioL) H) (t:=ioT) (f:=enV) (p:=fun t=>!thirdB uh ah p.1 p.2 t) (v:=.dat (bD false)) (fun fm=>∃ r,(r=[]∨∃ x y,r=ioU x y)∧fm=ioF n p.1 p.2 (ioR p.1 p.2 (.opq n) r)) (l:=List.range n) (fm:=ioF n p.1 p.2 (ioR p.1 p.2 (.opq n) [])) ⟨[],.inl rfl,rfl⟩ fun x hx fm hf=>by
   obtain ⟨r,h,rfl⟩:=hf
   refine ⟨ioF n p.1 p.2 (ioR p.1 p.2 (.opq n) (ioU (iV x) (oV x))),ioF n p.1 p.2 (ioR p.1 p.2 (.opq n) (ioU (iV x) (oV x))),?_,?_,_,.inr ⟨_,_,rfl⟩,rfl⟩
   ·rcases h with rfl | ⟨y,z,rfl⟩ <;> rfl
   ·have hb:=io_cd true u12 u21 uh ah hn hp (List.mem_range.mp hx)
    show exs (oT (ioC n true u12 u21 uh ah p.1 p.2) 49).ex _ [(.ifs (.bop true [ioX 0,ioX 1,ioX 2,ioX 3] 819011819120) [(.ret (.const (.bool false) 820019820024) 820012820024)] [] 819008820024)] _=_
    cases z:thirdB uh ah p.1 p.2 x with
    | false=>rw [z] at hb;exact exs_n (ex_ifs hb rfl) rfl
    | true=>rw [z] at hb;exact exs_r (ex_ifs hb (exs_r (ex_ret (by kernel_rfl))))
  have hit:=mem_at (io_it true u12 u21 uh ah (.opq n) n hn) hp
  rw [Bool.not_false,Bool.true_and]
  cases z:(List.range n).all fun t=>!thirdB uh ah p.1 p.2 t with
  | true =>
   rw [z] at o2
   exact go (exs_n (ex_ifs h3 rfl) (exs_n (ex_for hit o2) (exs_r (ex_ret (by kernel_rfl)))))
  | false =>
   rw [z] at o2
   exact go (exs_n (ex_ifs h3 rfl) (exs_r (ex_for hit o2)))
section
theorem lot_len2 {l:List Nat} (h:l∈lotL):l.length≤2:=by rcases lot_cases h with ⟨y,rfl⟩ | ⟨y,z,rfl⟩ <;> exact Nat.le_of_ble_eq_true rfl
theorem SigP.row {cs:List (List Nat)} (h:SigP cs):RowP cs:=⟨Nat.le_trans (k3 h.len) (by decide),fun c hc=>⟨lot_names (h.l c hc),Nat.le_trans (lot_len2 (h.l c hc)) (by decide)⟩⟩
theorem bothL_row {cs ds:List (List Nat)} (hc:SigP cs) (hd:SigP ds):RowP (bothL cs ds):=by
 refine ⟨?_,fun c q=>?_⟩
 ·unfold bothL
  rw [List.length_map,List.length_zip]
  exact Nat.le_trans (Nat.min_le_left _ _) hc.row.n
 ·obtain ⟨p,hp,rfl⟩:=List.mem_map.mp q
  obtain ⟨m1,m2⟩:=List.of_mem_zip (a:=p.1) (b:=p.2) hp
  refine ⟨fun x hx=>(List.mem_append.mp hx).elim (fun q=>(hc.row.p _ m1).1 x (List.mem_filter.mp q).1) fun q=>(hd.row.p _ m2).1 x (List.mem_filter.mp q).1,?_⟩
  unfold partL
  rw [List.length_append]
  exact Nat.le_trans (Nat.add_le_add (Nat.le_trans (List.length_filter_le _ _) (lot_len2 (hc.l _ m1))) (Nat.le_trans (List.length_filter_le _ _) (lot_len2 (hd.l _ m2)))) (by decide)
theorem lotV_sub (D:Nat→DV) (l:List Nat):subD D (lotV l)=lotV l:=congrArg DV.lst (subDL_map D _ l)
theorem rowV_sub (D:Nat→DV) (cs:List (List Nat)):subD D (rowV cs)=rowV cs:=congrArg DV.lst ((subDL_map D _ cs).trans (List.map_congr_left fun l _=>lotV_sub D l))
section
variable {w:World} {h:Heap} {K:Frag} {φb:Nat→Option Addr} {cs ds:List (List Nat)}
theorem chC_ok (E:Wd h K) {I:Opq}:ConOK w h K φb I (conT chC):=conT_ok (one_mem ⟨rfl,fun x hx=>by
 obtain ⟨y,hy,rfl⟩:=List.mem_map.mp hx
 show FT w h K φb k__law_chain 6 false [sN y] (subD I.D (lotV (upN y)))
 rw [lotV_sub]
 exact chain_t E (List.mem_range.mp hy)⟩)
theorem under_t (E:Wd h K) (hc:RowP cs) (hd:RowP ds):FT w h K φb k__law_under 10 false [rowV cs,rowV ds] (bD (undS cs ds)):=by
 have r:FT w h K φb k__law_under 10 false [subD .opq (rowV cs),subD .opq (rowV ds)] (bD (undS cs ds)):=layerT (I:=opq0) (ds:=[rowV cs,rowV ds]) (r:=bD (undS cs ds)) E (chC_ok E) (under_run hc hd)
 rwa [rowV_sub,rowV_sub] at r
theorem both_t (E:Wd h K) (hc:RowP cs) (hd:RowP ds):FT w h K φb k__law_both 10 false [rowV cs,rowV ds] (bothD cs ds):=by
 have r:FT w h K φb k__law_both 10 false [subD .opq (rowV cs),subD .opq (rowV ds)] (subD .opq (bothD cs ds)):=layerT (I:=opq0) (ds:=[rowV cs,rowV ds]) (r:=bothD cs ds) E (chC_ok E) (both_run hc hd)
 rwa [rowV_sub,rowV_sub,sub_id] at r
theorem lahead_t (E:Wd h K) (hc:RowP cs) (hd:RowP ds):FT w h K φb k__law_ahead 12 false [rowV cs,rowV ds] (bD (msS cs ds)):=by
 have c:ConOK w h K φb (lsI [rowV cs,rowV ds] (tk2 (rowV_tk cs) (rowV_tk ds))) (conT (laC (undS cs ds) (undS ds cs))):=conT_ok (one_mem ⟨rfl,cons_mem (under_t E hc hd) (one_mem (under_t E hd hc))⟩)
 exact layerT E c (la_run (undS cs ds) (undS ds cs))
noncomputable def ioD (css:List (List (List Nat))) (es:List (List Nat)):List DV:=css.map rowV++[rowV es]
theorem ioD_tk (css:List (List (List Nat))) (es:List (List Nat)):∀ d∈ioD css es,Tk d:=fun d hd=>(List.mem_append.mp hd).elim (fun q=>by
 obtain ⟨c,_,rfl⟩:=List.mem_map.mp q;exact rowV_tk c) (one_mem (rowV_tk es) d)
theorem ioD_row {css:List (List (List Nat))} {es:List (List Nat)} {t:Nat} (h:t < css.length):lsD (ioD css es) t=rowV (rowN css t):=getD_at (by unfold ioD;rw [List.getElem?_append_left (by rw [List.length_map];exact h),List.getElem?_map,rowN_at h];rfl)
theorem ioD_es {css:List (List (List Nat))} {es:List (List Nat)}:lsD (ioD css es) css.length=rowV es:=getD_at (by unfold ioD;rw [List.getElem?_append_right (by rw [List.length_map];exact Nat.le_refl _),List.length_map,Nat.sub_self];rfl)
noncomputable def isOpen (css:List (List (List Nat))) (i j:Nat):Bool:=ioB (bothB (rowN css i) (rowN css j)) (undS (rowN css i) (rowN css j)) (undS (rowN css j) (rowN css i)) (fun t=>undS (bothL (rowN css i) (rowN css j)) (rowN css t)) (msN css) css.length i j
theorem isopen_t (E:Wd h K) {css:List (List (List Nat))} (R:Rows css) {i j:Nat} (hij:i < j) (hj:j < css.length):FT w h K φb k__law_is_open 14 false [.lst (css.map rowV),.int i,.int j] (bD (isOpen css i j)):=by
 have hi:=Nat.lt_trans hij hj
 have tk:=ioD_tk css (bothL (rowN css i) (rowN css j))
 have hrow:∀ {t},t < css.length→lsD (ioD css (bothL (rowN css i) (rowN css j))) t=rowV (rowN css t):=fun ht=>ioD_row ht
 have rp:∀ {t},t < css.length→RowP (rowN css t):=fun ht=>(R.s ht).row
 have c:ConOK w h K φb (lsI _ tk) (conT (ioC css.length (bothB (rowN css i) (rowN css j)) (undS (rowN css i) (rowN css j)) (undS (rowN css j) (rowN css i)) (fun t=>undS (bothL (rowN css i) (rowN css j)) (rowN css t)) (msN css) i j)):=by
  refine conT_ok (cons_mem ⟨rfl,one_mem ?_⟩ (cons_mem ⟨rfl,cons_mem ?_ (cons_mem ?_ fun x hx=>?_)⟩ (one_mem ⟨rfl,fun x hx=>?_⟩)))
  ·show FT w h K φb k__law_both 10 false [lsD _ i,lsD _ j] (subD _ (cond (bothB (rowN css i) (rowN css j)) (.opq css.length) .none))
   rw [hrow hi,hrow hj]
   have r:=both_t (w:=w) (φb:=φb) E (rp hi) (rp hj)
   unfold bothD at r
   cases q:bothB (rowN css i) (rowN css j) with
   | false=>rw [q] at r;exact r
   | true =>
    rw [q] at r
    show FT w h K φb k__law_both 10 false _ (lsD _ css.length)
    rw [ioD_es];exact r
  ·show FT w h K φb k__law_under 10 false [lsD _ i,lsD _ j] _
   rw [hrow hi,hrow hj];exact under_t E (rp hi) (rp hj)
  ·show FT w h K φb k__law_under 10 false [lsD _ j,lsD _ i] _
   rw [hrow hi,hrow hj];exact under_t E (rp hj) (rp hi)
  ·obtain ⟨t,ht,rfl⟩:=List.mem_map.mp hx
   have t1:=(oth_mem ht).1
   show FT w h K φb k__law_under 10 false [lsD _ css.length,lsD _ t] _
   rw [hrow t1,ioD_es];exact under_t E (bothL_row (R.s hi) (R.s hj)) (rp t1)
  ·rcases List.mem_append.mp hx with q | q
   ·obtain ⟨t,ht,rfl⟩:=List.mem_map.mp q
    have t1:=(oth_mem ht).1
    show FT w h K φb k__law_ahead 12 false [lsD _ t,lsD _ i] _
    rw [hrow t1,hrow hi];exact lahead_t E (rp t1) (rp hi)
   ·obtain ⟨t,ht,rfl⟩:=List.mem_map.mp q
    have t1:=(oth_mem ht).1
    show FT w h K φb k__law_ahead 12 false [lsD _ t,lsD _ j] _
    rw [hrow t1,hrow hj];exact lahead_t E (rp t1) (rp hj)
 have run:=io_run (bothB (rowN css i) (rowN css j)) (undS (rowN css i) (rowN css j)) (undS (rowN css j) (rowN css i)) (fun t=>undS (bothL (rowN css i) (rowN css j)) (rowN css t)) (msN css) R.mem (prs_mem.mpr ⟨hij,hj⟩)
 dsimp only at run
 have r:FT w h K φb k__law_is_open 14 false [.lst (subDL (lsD (ioD css (bothL (rowN css i) (rowN css j)))) (toks css.length)),.int i,.int j] (bD (isOpen css i j)):=layerT (ds:=[.lst (toks css.length),.int i,.int j]) (r:=bD (isOpen css i j)) E c run
 rwa [toks_rows hrow] at r
end
theorem apart_zip (cs ds:List (List Nat)):((List.zip cs ds).all hasP)=!apart cs ds:=by
 unfold apart
 rw [List.all_eq_not_any_not]
 exact congrArg (fun p=>!(List.zip cs ds).any p) (funext fun p=>Bool.not_not _)
theorem und_meets {cs ds ts:List (List Nat)} (h1:Lots cs) (h2:Lots ds) (h:apart cs ds=false):undS (meets cs ds) ts=undS (bothL cs ds) ts:=by
 have e:∀ p∈List.zip cs ds,∀ c,belL (meetL p.1 p.2) c=belL (partL p.1 p.2) c:=fun p hp c=>belL_part (h1 _ (List.of_mem_zip (a:=p.1) (b:=p.2) hp).1) (h2 _ (List.of_mem_zip (a:=p.1) (b:=p.2) hp).2) (Bool.eq_false_iff.mpr fun y=>nft (h.symm.trans (List.any_eq_true.mpr ⟨p,hp,y⟩)))
 unfold meets bothL
 generalize List.zip cs ds=l at e
 induction l generalizing ts with
 | nil=>rfl
 | cons p l ih =>
  cases ts with
  | nil=>rfl
  | cons t ts=>exact cg2 (f:=(·&&·)) (e p (List.mem_cons_self ..) t) (ih (ts:=ts) fun q hq=>e q (List.mem_cons_of_mem _ hq))
theorem amb_bool {u1 u2 hb T S:Bool} (h:u1=false→u2=false→hb=true→T=!S):(!(!hb||(u1||u2))&&T)=!((u1&&!u2)||((u2&&!u1)||((u1&&u2)||((!u1&&(!u2&&!hb))||S)))):=by
 cases u1 with
 | true=>cases hb <;> cases u2 <;> rfl
 | false=>cases u2 with
  | true=>cases hb <;> rfl
  | false=>cases hb with
   | false=>rfl
   | true=>exact h rfl rfl rfl
theorem isOpen_amb {css:List (List (List Nat))} (R:Rows css) {i j:Nat} (hij:i < j) (hj:j < css.length):isOpen css i j=ambS css i j:=by
 have hi:=Nat.lt_trans hij hj
 have eb:(!Nat.beq (rowN css i).length (rowN css j).length||apart (rowN css i) (rowN css j))=!bothB (rowN css i) (rowN css j):=by
  unfold bothB
  rw [apart_zip,Bool.not_and,Bool.not_not]
 unfold isOpen ambS ioB ambB botS
 rw [eb]
 refine amb_bool fun h1 h2 h3=>?_
 unfold bothB at h3
 rw [apart_zip] at h3
 refine and_e h3 fun h4 h5=>?_
 have e:comS (rowN css i) (rowN css j)=meets (rowN css i) (rowN css j):=by
  unfold comS
  rw [h1,h2,h3];rfl
 unfold othN
 rw [List.any_map,List.any_filter,List.all_eq_not_any_not]
 refine congrArg (fun p=>!(List.range css.length).any p) (funext fun t=>?_)
 unfold thirdB
 dsimp only
 rw [Bool.not_not,← und_meets (ts:=rowN css t) (R.s hi).l (R.s hj).l ((Bool.not_eq_true' _).mp h5)]
 show _=(_&&setB css i j t)
 unfold setB
 rw [e];rfl
end
section
noncomputable def lpC (n:Nat) (b:Nat→Nat→Bool):List LE:=[⟨k__law_is_open,14,false,(prs n).map fun p=>([.lst (toks n),.int p.1,.int p.2],bD (b p.1 p.2))⟩]
noncomputable def lpSc:Sc:=[(0,.local),(114,.local),(146,.local),(113,.globalImplicit),(16,.globalImplicit),(253,.globalImplicit),(58,.free)]
noncomputable def lpF (sc:Sc) (n:Nat) (r:List (Nat×AV)):Fm:=⟨sc,(58,.dat (.lst (toks n)))::r,16⟩
noncomputable def compQ (x:MX):MX×List MX:=MX.casesOn x (fun _ _=>(x,[])) (fun _ _=>(x,[])) (fun _ _=>(x,[])) (fun _ _ _=>(x,[])) (fun _ _ _ _=>(x,[])) (fun _ _=>(x,[])) (fun _ _=>(x,[])) (fun _ _ _ _=>(x,[])) (fun _ _ _=>(x,[])) (fun _ _=>(x,[])) (fun _ _ _=>(x,[])) (fun _ _ _ _=>(x,[])) (fun _ _ _=>(x,[])) (fun _ _ _ _ _ _=>(x,[])) (fun _ _ _ _ _=>(x,[])) (fun _ _ _=>(x,[])) (fun _ _ _=>(x,[])) (fun _ _ _ _ _ _=>(x,[]))
 (fun e gs _ _=>(e,gs)) (fun _ _ _=>(x,[])) (fun _=>(x,[]))
noncomputable def genS (x:MX):MX×MX:=Option.rec (x,x) (fun p=>(p.2.1,p.2.2.getD 0 x)) (asGen x)
noncomputable def lpE:MX:=itS (mS b__law_pairs 0)
noncomputable def lpX:MX:=(compQ lpE).1
noncomputable def lpG (k:Nat):MX×MX:=genS ((compQ lpE).2.getD k lpE)
section
variable (b:Nat→Nat→Bool)
theorem lp_it0:∀ n∈[3,4,5],items itN (oT (lpC n b) 48) (lpF f__law_pairs.sc n []) (.var 114 823027823029) (lpG 0).1 []=some ((List.range n).map iV,[]):=n3 (by kernel_rfl) (by kernel_rfl) (by kernel_rfl)
theorem lp_it:∀ n∈[3,4,5],(List.range n).map (fun i=>items itN (oT (lpC n b) 48) (lpF lpSc n [(114,iV i)]) (.var 146 823054823058) (lpG 1).1 [])=mapB (fun i=>some ((List.range' (i+1) (n - (i+1))).map iV,[])) (List.range n):=n3 (by kernel_rfl) (by kernel_rfl) (by kernel_rfl)
theorem lp_cd:∀ n∈[3,4,5],(prs n).map (fun p=>(oT (lpC n b) 48).cd (lpF lpSc n [(114,iV p.1),(146,iV p.2)]) (lpG 1).2 [])=mapB (fun p=>some (b p.1 p.2,[])) (prs n):=n3 (by kernel_rfl) (by kernel_rfl) (by kernel_rfl)
theorem lp_e (n i j:Nat):(oT (lpC n b) 48).ev (lpF lpSc n [(114,iV i),(146,iV j)]) lpX []=some (.dat (pairD i j),[]):=by kernel_rfl
theorem flat_filter (i:Nat) (l:List Nat):l.flatMap (prD b i)=(l.filter (b i)).map (pairD i):=by
 induction l with
 | nil=>rfl
 | cons j r ih =>
  rw [List.flatMap_cons,ih,List.filter_cons]
  unfold prD
  cases b i j <;> rfl
theorem lpairs_run {n:Nat} (hn:n∈[3,4,5]):runT inE (lpC n b) 50 k__law_pairs 16 false [.lst (toks n)]=some (.dat (.lst (pairD' n b))):=by
 have hc:compIt (oT (lpC n b) 48).cd (compGens itN (oT (lpC n b) 48) lpX [.gen (.var 146 823054823058) (lpG 1).1 [(lpG 1).2]]) (.var 114 823027823029) [] (lpF lpSc n []) ((List.range n).map iV) []=some (((List.range n).filter fun _=>true).flatMap fun i=>datL (((List.range' (i+1) (n - (i+1))).filter (b i)).map (pairD i)),[]):=by
  refine compIt_flat (f:=iV) (p:=fun _=>true) rfl fun i hi=>⟨lpF lpSc n [(114,iV i)],rfl,rfl,fun _=>comp_g (mem_at (lp_it b n hn) hi) ?_⟩
  rw [datL_mapF]
  refine compIt_map (f:=iV) (p:=b i) (g:=fun j=>AV.dat (pairD i j)) rfl fun j hj=>⟨lpF lpSc n [(114,iV i),(146,iV j)],rfl,cds_1 ?_,fun _=>comp_e (lp_e b n i j)⟩
  have hj:=List.mem_range'_1.mp hj
  have hi:=List.mem_range.mp hi
  exact mem_at (lp_cd b n hn) (prs_mem.mpr ⟨hj.1,Nat.add_sub_of_le hi ▸ hj.2⟩)
 have e:(((List.range n).filter fun _=>true).flatMap fun i=>datL (((List.range' (i+1) (n - (i+1))).filter (b i)).map (pairD i)))=datL (pairD' n b):=by
  rw [datL_flat,List.filter_eq_self.mpr (fun _ _=>rfl)]
  exact congrArg (fun f=>datL ((List.range n).flatMap f)) (funext fun i=>(flat_filter b i _).symm)
 rw [e] at hc
 refine runF_r (fi:=f__law_pairs) (bs:=[(58,.dat (.lst (toks n)))]) (v:=.dat (.lst (pairD' n b))) (fm':=lpF f__law_pairs.sc n []) (H':=[]) (by kernel_rfl) (by kernel_rfl) ?_ rfl
 show exs (oT (lpC n b) 50).ex (lpF f__law_pairs.sc n []) [.ret (.comp lpX [.gen (.var 114 823027823029) (lpG 0).1 [],.gen (.var 146 823054823058) (lpG 1).1 [(lpG 1).2]] lpSc _) _] _=_
 refine exs_r (ex_ret (ev_comp (comp_v (by kernel_rfl) (lp_it0 b n hn) hc ?_) (allDat_datL _)))
 rw [datL_len,pairD_prL hn,List.length_map]
 exact Nat.le_trans (prL_len hn b) (by decide)
end
section
variable {w:World} {h:Heap} {K:Frag} {φb:Nat→Option Addr}
theorem rowsV_tk (css:List (List (List Nat))):∀ d∈css.map rowV,Tk d:=fun d hd=>by
 obtain ⟨c,_,rfl⟩:=List.mem_map.mp hd;exact rowV_tk c
theorem lsD_rowV {css:List (List (List Nat))} {t:Nat} (h:t < css.length):lsD (css.map rowV) t=rowV (rowN css t):=getD_at (by rw [List.getElem?_map,rowN_at h];rfl)
theorem lpairs_t (E:Wd h K) {css:List (List (List Nat))} (R:Rows css):FT w h K φb k__law_pairs 16 false [.lst (css.map rowV)] (.lst (pairD' css.length (ambS css))):=by
 have er:subDL (lsD (css.map rowV)) (toks css.length)=css.map rowV:=toks_rows lsD_rowV
 have c:ConOK w h K φb (lsI (css.map rowV) (rowsV_tk css)) (conT (lpC css.length (ambS css))):=conT_ok (one_mem ⟨rfl,fun x hx=>by
  obtain ⟨⟨i,j⟩,hp,rfl⟩:=List.mem_map.mp hx
  obtain ⟨h1,h2⟩:=prs_mem.mp hp
  show FT w h K φb k__law_is_open 14 false [.lst (subDL (lsD (css.map rowV)) (toks css.length)),.int i,.int j] (bD (ambS css i j))
  rw [er,← isOpen_amb R h1 h2]
  exact isopen_t E R h1 h2⟩)
 have r:FT w h K φb k__law_pairs 16 false [.lst (subDL (lsD (css.map rowV)) (toks css.length))] (.lst (subDL (lsD (css.map rowV)) (pairD' css.length (ambS css)))):=layerT (ds:=[.lst (toks css.length)]) (r:=.lst (pairD' css.length (ambS css))) E c (lpairs_run (ambS css) R.mem)
 rwa [er,pair_sub] at r
end
end
section
noncomputable def kids (x:MX):List MX:=MX.casesOn x (fun _ _=>[]) (fun _ _=>[]) (fun _ _=>[]) (fun _ xs _=>xs) (fun _ l r _=>[l,r]) (fun x _=>[x]) (fun x _=>[x]) (fun t b e _=>[t,b,e]) (fun xs _ _=>xs) (fun xs _=>xs) (fun ks vs _=>ks++vs) (fun _ l r _=>[l,r]) (fun f xs _=>f::xs) (fun f xs _ kv _ _=>f::kv::xs) (fun o _ xs _ _=>o::xs) (fun o _ _=>[o]) (fun o i _=>[o,i]) (fun o _ _ _ _ _=>[o]) (fun e gs _ _=>e::gs) (fun t it ifs=>t::it::ifs) (fun x=>[x])
noncomputable def kid (x:MX) (i:Nat):MX:=(kids x).getD i x
section
variable {oq:OpqE} {I:ItN} {C:Cfg} {n:Nat} {fm:Fm} {H:Hp}
theorem ev_split {o x:MX} {nm ap p c:Nat} {tx:List Nat} (hp:(Nat.beq (ap / 1000 % 1000) (p / 1000000000)&&le [x].length 20&&noCall0 o)=true) (hm:listBeq (C.cd nm) wJoin=false) (hm2:listBeq (C.cd nm) wSplit=true) (ho:(ops I C n).ev fm o H=some (.dat (.str tx),H)) (hx:(ops I C n).ev fm x H=some (.dat (.str [c]),H)) (h1:tx.length≤10000):(ops I C (n+1)).ev fm (.meth o nm [x] ap p) H=some (.dat (.lst ((splitM c tx).map .str)),H):=by
 have hmv:methV (C.cd nm) (.dat (.str tx)) [.dat (.str [c])] H=some (.dat (.lst ((splitM c tx).map .str)),H):=by
  show alt (cond (listBeq (C.cd nm) wJoin) _ (gb (listBeq (C.cd nm) wSplit) (gb (le tx.length 10000) (some (_,H))))) _=_
  rw [hm,hm2,show le tx.length 10000=true from Nat.ble_eq_true_of_le h1];rfl
 exact ev_meth hp ho hx rfl rfl hmv
theorem deq_lst {l:List DV} (h:∀ d∈l,deqO d d=some true):deqO (.lst l) (.lst l)=some true:=by
 induction l with
 | nil=>rfl
 | cons a l ih=>exact ob_u (fun t=>cond t (deqO (.lst l) (.lst l)) (some false)) (h a (List.mem_cons_self ..)) rfl (ih fun d q=>h d (List.mem_cons_of_mem _ q))
theorem deq_int (i:Int):deqO (.int i) (.int i)=some true:=congrArg some (beq_self_eq_true i)
theorem deq_pair (i j:Nat):deqO (pairD i j) (pairD i j)=some true:=by
 show ob (some ((i:Int)==i)) (fun t=>cond t (ob (some ((j:Int)==j)) fun t=>cond t (some true) (some false)) (some false))=_
 rw [beq_self_eq_true,beq_self_eq_true];rfl
end
noncomputable def stoks (n:Nat):List DV:=(List.range n).map fun t=>.opq (10+t)
noncomputable def rrC (n:Nat) (due:List DV) (tx:List Nat):List LE:=[⟨k__law_sig,6,false,(List.range n).map fun t=>([.opq t],.opq (10+t))⟩,⟨k__law_pairs,16,false,[([.lst (toks n)],.lst due)]⟩,
 ⟨k_ambiguous_pairs,94,true,[([.lst (stoks n)],.lst due)]⟩,⟨k_ambiguity_text,96,true,[([.lst (stoks n)],.str tx)]⟩]
noncomputable def rrF (n:Nat) (r:List (Nat×AV)):Fm:=⟨f__law_rows_right.sc,(4,.rinst 4 0)::(58,.dat (.lst (toks n)))::r,98⟩
noncomputable abbrev rrR (n:Nat) (due:List DV) (r:List (Nat×AV)):List (Nat×AV):=(145,.dat (.lst (stoks n)))::(254,.dat (.lst due))::r
noncomputable def rrX:MX:=kid (itS (mS b__law_rows_right 1)) 0
noncomputable def rrY:MX:=kid (itS (mS b__law_rows_right 3)) 1
section
variable (due:List DV) (tx:List Nat)
theorem rr_1:∀ n∈[3,4,5],(oT (rrC n due tx) 50).ex (rrF n []) (mS b__law_rows_right 0) []=some (.next,rrF n (rrR n due []),[]):=n3 (by kernel_rfl) (by kernel_rfl) (by kernel_rfl)
theorem rr_3:∀ n∈[3,4,5],(oT (rrC n due tx) 50).ex (rrF n (rrR n due [])) (mS b__law_rows_right 2) []=some (.next,rrF n (rrR n due [(257,sV tx)]),[]):=n3 (by kernel_rfl) (by kernel_rfl) (by kernel_rfl)
theorem rr_2:∀ n∈[3,4,5],(oT (rrC n due tx) 48).ev (rrF n (rrR n due [])) rrX []=some (.dat (.lst due),[]):=n3 (by kernel_rfl) (by kernel_rfl) (by kernel_rfl)
theorem rr_4 (n:Nat):(oT (rrC n due []) 48).ev (rrF n (rrR n due [(257,sV [])])) rrY []=some (.dat (bD true),[]):=by kernel_rfl
theorem rr_run {n:Nat} (hn:n∈[3,4,5]) (hq:@deqO inE (.lst due) (.lst due)=some true) (hd:depL due≤60) (hl:due.length≤10) (htl:tx.length≤10000) (ht:(due=[]∧tx=[])∨(due.isEmpty=false∧(splitM 10 tx).length=due.length)):runT inE (rrC n due tx) 50 k__law_rows_right 98 true [.lst (toks n)]=some (.dat (bD true)):=by
 have hdl:=dep_nil hd
 have h2:(oT (rrC n due tx) 49).cd (rrF n (rrR n due [])) (.cmp .NotEq rrX (.var 254 826039826042) 826007826042) []=some (false,[]) :=
  cd_cmp (rr_2 due tx n hn) (b:=.dat (.lst due)) (by kernel_rfl) (@cmp_ne inE _ _ _ _ _ hdl hdl hq)
 have hcd:(oT (rrC n due tx) 48).cd (rrF n (rrR n due [(257,sV tx)])) (.cmp .Eq (.var 254 829025829028) (.lst [] 829032829034) 829025829034) []=some (due.isEmpty,[]) :=
  cd_cmp (H1:=[]) (a:=.dat (.lst due)) (by kernel_rfl) (b:=.dat (.lst [])) (by kernel_rfl) (@cmp_nil_eq inE _ _ _ hd)
 have hv:(oT (rrC n due tx) 48).ev (rrF n (rrR n due [(257,sV tx)])) (cond due.isEmpty rrY (.cmp .Eq (.call (.glob 16 829040829043) [(.meth (.var 257 829044829048) 66 [(.const (.str 164) 829055829059)] 829044829054 829044829060)] 829040829061) (.call (.glob 16 829065829068) [(.var 254 829069829072)] 829065829073) 829040829073)) []=some (.dat (bD true),[]):=by
  rcases ht with ⟨rfl,rfl⟩ | ⟨hne,ht⟩
  ·exact rr_4 [] n
  ·rw [hne]
   refine ev_cmp (ev_len (k:=due.length) (v:=.dat (.lst ((splitM 10 tx).map .str))) rfl (by kernel_rfl) (ev_split (c:=10) (by kernel_rfl) (by kernel_rfl) (by kernel_rfl) (by kernel_rfl) (by kernel_rfl) htl) ?_) (ev_len (k:=due.length) (v:=.dat (.lst due)) rfl (by kernel_rfl) (by kernel_rfl) (lenV_lst (Nat.le_trans hl (by decide)))) ((@cmp_int_eq inE _ _ _ _).trans (congrArg some (beq_self_eq_true _)))
   have:=lenV_lst (H:=[]) (l:=(splitM 10 tx).map .str) (by rw [List.length_map,ht];exact Nat.le_trans hl (by decide))
   rwa [List.length_map,ht] at this
 refine runF_r (fi:=f__law_rows_right) (bs:=[(4,.rinst 4 0),(58,.dat (.lst (toks n)))]) (v:=.dat (bD true)) (fm':=rrF n (rrR n due [(257,sV tx)])) (H':=[]) (by kernel_rfl) (by kernel_rfl) ?_ rfl
 show exs (oT (rrC n due tx) 50).ex _ [mS b__law_rows_right 0,.ifs (.cmp .NotEq rrX (.var 254 826039826042) 826007826042) _ [] _,mS b__law_rows_right 2,.ret (.ite (.cmp .Eq (.var 254 829025829028) (.lst [] 829032829034) 829025829034) rrY _ _) _] _=_
 exact exs_n (rr_1 due tx n hn) (exs_n (ex_ifs h2 rfl) (exs_n (rr_3 due tx n hn) (exs_r (ex_ret (ev_ite hcd hv)))))
end
end
section
noncomputable def rrD (css:List (List (List Nat))) (t:Nat):DV:=cond (Nat.blt t 10) (rowV (rowN css t)) (sigK (rowN css (t - 10)))
section
variable {css:List (List (List Nat))}
theorem rrD_tk (h:∀ t,Lots (rowN css t)) (t:Nat):Tk (rrD css t):=by
 unfold rrD
 cases Nat.blt t 10 with
 | true=>exact rowV_tk _
 | false=>exact sig_tk (h _)
theorem rrD_lo {t:Nat} (h:t < 10):rrD css t=rowV (rowN css t):=by
 unfold rrD;rw [show Nat.blt t 10=true from Nat.ble_eq_true_of_le h];rfl
theorem rrD_hi (t:Nat):rrD css (10+t)=sigK (rowN css t):=by
 have:Nat.blt (10+t) 10=false:=Bool.eq_false_iff.mpr fun e=>Nat.not_succ_le_self 10 (Nat.le_trans (Nat.succ_le_succ (Nat.le_add_right 10 t)) (Nat.le_of_ble_eq_true e))
 unfold rrD;rw [this,Nat.add_sub_cancel_left];rfl
theorem Rows.lt10 (R:Rows css) {t:Nat} (h:t≤css.length):t < 10:=Nat.lt_of_le_of_lt (Nat.le_trans h R.le) (by decide)
theorem text_len (R:Rows css):(textS css).length≤10000:=by
 unfold textS
 refine Nat.le_trans (inter_len [10] (N:=439) fun x hx=>?_) ?_
 ·obtain ⟨p,_,rfl⟩:=List.mem_map.mp hx
  exact textP_len (fun t=>by unfold atSt;rw [List.length_take];exact Nat.min_le_left _ _) p
 ·rw [List.length_map]
  exact Nat.le_trans (Nat.mul_le_mul_right 440 (prL_len R.mem (ambS css))) (by decide)
variable {w:World} {h:Heap} {K:Frag} {φb:Nat→Option Addr}
theorem right_t (E:Wd h K) (R:Rows css):FT w h K φb k__law_rows_right 98 true [.lst (css.map rowV)] (bD true):=by
 have er:subDL (rrD css) (toks css.length)=css.map rowV:=toks_rows fun ht=>rrD_lo (R.lt10 (Nat.le_of_lt ht))
 have es:subDL (rrD css) (stoks css.length)=css.map sigK:=toks_f fun {t} _=>rrD_hi t
 have c:ConOK w h K φb (fnI (rrD css) (rrD_tk R.lots)) (conT (rrC css.length (pairD' css.length (ambS css)) (textS css))):=by
  refine conT_ok (cons_mem ⟨rfl,fun x hx=>?_⟩ (cons_mem ⟨rfl,one_mem ?_⟩ (cons_mem ⟨rfl,one_mem ?_⟩ (one_mem ⟨rfl,one_mem ?_⟩))))
  ·obtain ⟨t,ht,rfl⟩:=List.mem_map.mp hx
   have ht:=List.mem_range.mp ht
   show FT w h K φb k__law_sig 6 false [rrD css t] (rrD css (10+t))
   rw [rrD_lo (R.lt10 (Nat.le_of_lt ht)),rrD_hi]
   exact sig_t E (R.s ht)
  ·show FT w h K φb k__law_pairs 16 false [.lst (subDL (rrD css) (toks css.length))] (.lst (subDL (rrD css) (pairD' css.length (ambS css))))
   rw [er,pair_sub]
   exact lpairs_t E R
  ·show FT w h K φb k_ambiguous_pairs 94 true [.lst (subDL (rrD css) (stoks css.length))] (.lst (subDL (rrD css) (pairD' css.length (ambS css))))
   rw [es,pair_sub]
   exact pairs_t E R
  ·show FT w h K φb k_ambiguity_text 96 true [.lst (subDL (rrD css) (stoks css.length))] _
   rw [es]
   exact text_t E R
 have ep:=pairD_prL R.mem (ambS css)
 have run:=rr_run (pairD' css.length (ambS css)) (textS css) R.mem (deq_lst fun d hd=>by
   rw [ep] at hd
   obtain ⟨p,_,rfl⟩:=List.mem_map.mp hd
   exact deq_pair _ _) (Nat.le_trans (depL_le (k:=1) fun d hd=>by
   rw [ep] at hd
   obtain ⟨p,_,rfl⟩:=List.mem_map.mp hd
   exact Nat.le_refl 1) (by decide)) (by rw [ep,List.length_map];exact prL_len R.mem _) (text_len R) (by
  by_cases q:prL css.length (ambS css)=[]
  ·exact .inl ⟨by rw [ep,q];rfl,text_none q⟩
  ·refine .inr ⟨Bool.eq_false_iff.mpr fun z=>q ?_,by rw [text_lines R q,ep,List.length_map]⟩
   rw [ep] at z
   exact List.map_eq_nil_iff.mp (List.isEmpty_iff.mp z))
 have r:FT w h K φb k__law_rows_right 98 true [.lst (subDL (rrD css) (toks css.length))] (bD true):=layerT (ds:=[.lst (toks css.length)]) (r:=bD true) E c run
 rwa [er] at r
end
end
section
noncomputable def pth (x:MX) (l:List Nat):MX:=l.foldl kid x
section
variable {oq:OpqE} {I:ItN} {C:Cfg} {n:Nat} {fm:Fm} {H:Hp} {X Y:MX} {p:Nat}
theorem cd_ne2 {x a:Nat} {t:Bool} (h0:(ops I C n).cd fm X H=some (!Nat.beq x a,H)) (h1:x≠a→(ops I C n).cd fm Y H=some (!t,H)):(ops I C (n+1)).cd fm (.bop true [X,Y] p) H=some (!(Nat.beq x a||t),H):=by
 refine cd_bop (bopC_c h0 (fun e=>?_) fun e=>?_)
 ·rcases beq_cases x a with ⟨q,_⟩ | ⟨q,hne⟩
  ·rw [q] at e;exact nft e
  ·rw [q,Bool.false_or]
   refine bopC_c (h1 hne) (fun e2=>?_) fun _=>rfl
   rw [bopC_n,e2]
 ·rcases beq_cases x a with ⟨q,_⟩ | ⟨q,hne⟩
  ·rw [q];rfl
  ·exact absurd (by rw [q];rfl) e
theorem ev_and2 {b1 b2:Bool} (h1:(ops I C n).ev fm X H=some (.dat (bD b1),H)) (h2:(ops I C n).ev fm Y H=some (.dat (bD b2),H)):(ops I C (n+1)).ev fm (.bop true [X,Y] p) H=some (.dat (bD (b1&&b2)),H) :=
 ops_ev (ob2_u (fun v H=>ob (boolV v) fun b=>cond (b==true) ((ops I C n).ev fm Y H) (some (.dat (.bool b),H))) h1 rfl (by cases b1;rfl;exact h2))
noncomputable def lV (l:List Nat):AV:=.dat (.lst (intsD l))
theorem items_ints {n:Nat} {C:Cfg} {t:MX} {i p:Nat} {l:List Nat} (h:(ops itN C n).ev fm (.var i p) H=some (lV l,H)):items itN (ops itN C n) fm t (.var i p) H=some (l.map iV,H):=by
 rw [← datL_ints]
 exact ob2_u (fun v H=>ob (froz v) fun x=>some (x,H)) h rfl rfl
theorem allDat_ints (l:List Nat):allDat (l.map iV)=some (intsD l):=by rw [← datL_ints];exact allDat_datL _
theorem ints_dep (l:List Nat):depL (intsD l)≤60:=Nat.le_trans (depL_le (k:=0) fun d hd=>by
 obtain ⟨t,_,rfl⟩:=List.mem_map.mp hd;exact Nat.le_refl _) (by decide)
theorem ints_empty (l:List Nat):(intsD l).isEmpty=l.isEmpty:=by cases l <;> rfl
theorem ints_nil (B:List AO) (l:List Nat):cmpOpV B .Eq H (lV l) (.dat (.lst []))=some l.isEmpty:=by rw [← ints_empty];exact cmp_nil_eq B H (ints_dep l)
theorem ints_nnil (B:List AO) (l:List Nat):cmpOpV B .NotEq H (lV l) (.dat (.lst []))=some (!l.isEmpty):=by rw [← ints_empty];exact cmp_nil_ne B H (ints_dep l)
theorem ints_same (B:List AO) (l:List Nat):cmpOpV B .Eq H (lV l) (lV l)=some true:=cmp_eq (dep_nil (ints_dep l)) (dep_nil (ints_dep l)) (deq_lst fun d hd=>by
 obtain ⟨t,_,rfl⟩:=List.mem_map.mp hd;exact deq_int _)
theorem fl_le {p:Nat→Bool} {l:List Nat} {k:Nat} (h:l.length≤k) (hk:k≤1000000):((l.filter p).map iV).length≤1000000:=by rw [List.length_map];exact Nat.le_trans (List.length_filter_le _ _) (Nat.le_trans h hk)
end
noncomputable def arC (n:Nat) (u:Nat→Bool) (m:Nat→Nat→Bool) (lo:Bool) (fl:List Nat):List LE:=[⟨k__law_under,10,false,(List.range n).map fun t=>([.opq n,.opq t],bD (u t))⟩,⟨k__law_ahead,12,false,(neqP n).map fun p=>([.opq p.1,.opq p.2],bD (m p.1 p.2))⟩,
 ⟨k__law_sig,6,false,(List.range (n+1)).map fun t=>([.opq t],.opq (10+t))⟩,⟨k_fitting,46,true,[([.lst (stoks n),.opq (10+n)],.lst (intsD fl))]⟩,⟨k_is_left_open,50,true,[([.lst (stoks n),.opq (10+n)],bD lo)]⟩]
noncomputable def arF (n:Nat) (r:List (Nat×AV)):Fm:=⟨f__law_asked_right.sc,(4,.rinst 4 0)::(58,.dat (.lst (toks n)))::(158,oV n)::r,98⟩
noncomputable abbrev arR (n:Nat) (fl bl:List Nat):List (Nat×AV):=[(43,lV fl),(259,lV bl),(145,.dat (.lst (stoks n))),(260,oV (10+n))]
noncomputable def arSc1:Sc:=[(0,.local),(114,.local),(78,.local),(249,.globalImplicit),(158,.free)]
noncomputable def arSc2:Sc:=[(0,.local),(114,.cell),(58,.free),(43,.free)]
noncomputable def arSc3:Sc:=[(0,.local),(146,.local),(252,.globalImplicit),(114,.free),(58,.free)]
noncomputable def arT:MX:=.tup [(.var 114 831019831021),(.var 78 831023831026)] 0 831019831026
noncomputable def arE (i:Nat) (l:List Nat):MX:=pth (itS (mS b__law_asked_right i)) l
noncomputable def arI:MX:=arE 0 [1,1]
noncomputable def arB (k:Nat):MX:=arE 1 [1,2,0,1,2,k]
noncomputable def arQ (k:Nat):MX:=arE 3 [k,0]
noncomputable def arG1 (n t:Nat):Fm:=⟨arSc1,[(158,oV n),(114,iV t),(78,oV t)],98⟩
noncomputable def arG2 (n:Nat) (fl:List Nat) (r:List (Nat×AV)):Fm:=⟨arSc2,(58,.dat (.lst (toks n)))::(43,lV fl)::r,98⟩
noncomputable def arG3 (n a x:Nat):Fm:=⟨arSc3,[(58,.dat (.lst (toks n))),(114,iV a),(146,iV x)],98⟩
noncomputable def bestL (m:Nat→Nat→Bool) (fl:List Nat):List Nat:=fl.filter fun a=>fl.all (aheadB m a)
theorem filter_not_all (p:Nat→Bool) (l:List Nat):(l.filter fun x=>!p x).isEmpty=l.all p:=by rw [filter_any,List.all_eq_not_any_not]
section
variable (u:Nat→Bool) (m:Nat→Nat→Bool) (lo:Bool) (fl bl:List Nat)
theorem ar_it:∀ n∈[3,4,5],items itN (oT (arC n u m lo fl) 48) (arF n []) arT arI []=some ((List.range n).map enV,[]):=n3 (by kernel_rfl) (by kernel_rfl) (by kernel_rfl)
theorem ar_cd:∀ n∈[3,4,5],(List.range n).map (fun t=>(oT (arC n u m lo fl) 48).cd (arG1 n t) (arE 0 [1,2]) [])=mapB (fun t=>some (u t,[])) (List.range n):=n3 (by kernel_rfl) (by kernel_rfl) (by kernel_rfl)
theorem ar_c2:∀ n∈[3,4,5],(allP n).map (fun p=>(oT (arC n u m lo fl) 45).cd (arG3 n p.1 p.2) (arB 0) [])=mapB (fun p=>some (!Nat.beq p.2 p.1,[])) (allP n):=n3 (by kernel_rfl) (by kernel_rfl) (by kernel_rfl)
theorem ar_c3:∀ n∈[3,4,5],(neqP n).map (fun p=>(oT (arC n u m lo fl) 45).cd (arG3 n p.1 p.2) (arB 1) [])=mapB (fun p=>some (!m p.1 p.2,[])) (neqP n):=n3 (by kernel_rfl) (by kernel_rfl) (by kernel_rfl)
theorem ar_s3:∀ n∈[3,4,5],(oT (arC n u m lo fl) 50).ex (arF n [(43,lV fl),(259,lV bl)]) (mS b__law_asked_right 2) []=some (.next,arF n (arR n fl bl),[]):=n3 (by kernel_rfl) (by kernel_rfl) (by kernel_rfl)
theorem ar_e4:∀ n∈[3,4,5],(oT (arC n u m lo fl) 47).ev (arF n (arR n fl bl)) (arQ 0) []=some (lV fl,[]):=n3 (by kernel_rfl) (by kernel_rfl) (by kernel_rfl)
theorem ar_e5:∀ n∈[3,4,5],(oT (arC n u m lo fl) 47).ev (arF n (arR n fl bl)) (arQ 1) []=some (.dat (bD lo),[]):=n3 (by kernel_rfl) (by kernel_rfl) (by kernel_rfl)
theorem ar_inner {n:Nat} (hn:n∈[3,4,5]) (hf:∀ t∈fl,t < n) (hlen:fl.length≤5) {a:Nat} (ha:a < n):(oT (arC n u m lo fl) 47).ev (arG2 n fl [(114,iV a)]) (.comp (.var 146 832034832038) [(.gen (.var 146 832043832047) (.var 43 832051832055) [(.bop true [arB 0,arB 1] 832059832112)])] arSc3 832033832113) []=some (lV (fl.filter fun x=>!aheadB m a x),[]) :=
 ev_comp (out:=(fl.filter fun x=>!aheadB m a x).map iV) (comp_v (vs:=fl.map iV) (H1:=[]) (by rfl) (items_ints (by kernel_rfl)) (compIt_map (f:=iV) (g:=iV) (p:=fun x=>!aheadB m a x) rfl fun x hx=>⟨arG3 n a x,rfl,cds_1 (cd_ne2 (mem_at (ar_c2 u m lo fl n hn) (allP_mem ha (hf x hx))) fun hne=>mem_at (ar_c3 u m lo fl n hn) (neqP_mem.mpr ⟨ha,hf x hx,hne.symm⟩)),fun _=>comp_e (by kernel_rfl)⟩) (fl_le hlen (by decide))) (allDat_ints _)
theorem ar_run {n:Nat} (hn:n∈[3,4,5]) (hfl:fl=(List.range n).filter u) (hlo:lo=(!fl.isEmpty&&(bestL m fl).isEmpty)):runT inE (arC n u m lo fl) 50 k__law_asked_right 98 true [.lst (toks n),.opq n]=some (.dat (bD true)):=by
 have hr:(List.range n).length≤5:=by rw [List.length_range];exact n345 hn
 have hlen:fl.length≤5:=by rw [hfl];exact Nat.le_trans (List.length_filter_le _ _) hr
 have hf:∀ t∈fl,t < n:=fun t ht=>by rw [hfl] at ht;exact List.mem_range.mp (List.mem_filter.mp ht).1
 have c1:compIt (oT (arC n u m lo fl) 48).cd (compGens itN (oT (arC n u m lo fl) 48) (.var 114 831012831014) []) arT [arE 0 [1,2]] ⟨arSc1,[(158,oV n)],98⟩ ((List.range n).map enV) []=some (((List.range n).filter u).map iV,[]) :=
  compIt_map (f:=enV) (g:=iV) (p:=u) rfl fun x hx=>⟨arG1 n x,rfl,cds_1 (mem_at (ar_cd u m lo fl n hn) hx),fun _=>comp_e (by kernel_rfl)⟩
 have s1:(oT (arC n u m lo fl) 50).ex (arF n []) (.asg (.var 43 831004831008) (.comp (.var 114 831012831014) [(.gen arT arI [arE 0 [1,2]])] arSc1 831011831072) 831004831072) []=some (.next,arF n [(43,lV fl)],[]):=by
  have h:(oT (arC n u m lo fl) 49).ev (arF n []) (.comp (.var 114 831012831014) [(.gen arT arI [arE 0 [1,2]])] arSc1 831011831072) []=some (lV fl,[]):=by
   rw [hfl] at c1 ⊢
   exact ev_comp (comp_v (by rfl) (ar_it u m lo _ n hn) c1 (fl_le hr (by decide))) (allDat_ints _)
  exact ex_asg h rfl
 have c2:compIt (oT (arC n u m lo fl) 48).cd (compGens itN (oT (arC n u m lo fl) 48) (.var 114 832012832014) []) (.var 114 832019832021) [(.cmp .Eq (.comp (.var 146 832034832038) [(.gen (.var 146 832043832047) (.var 43 832051832055) [(.bop true [arB 0,arB 1] 832059832112)])] arSc3 832033832113) (.lst [] 832117832119) 832033832119)] (arG2 n fl []) (fl.map iV) []=some ((bestL m fl).map iV,[]) :=
  compIt_map (f:=iV) (g:=iV) (p:=fun a=>fl.all (aheadB m a)) rfl fun a ha=>⟨arG2 n fl [(114,iV a)],rfl,cds_1 (cd_cmp (ar_inner u m lo fl hn hf hlen (hf a ha)) (b:=.dat (.lst [])) (by kernel_rfl) (by rw [← filter_not_all];exact @ints_nil inE _ _ _)),fun _=>comp_e (by kernel_rfl)⟩
 have s2:(oT (arC n u m lo fl) 50).ex (arF n [(43,lV fl)]) (.asg (.var 259 832004832008) (.comp (.var 114 832012832014) [(.gen (.var 114 832019832021) (.var 43 832025832029) [(.cmp .Eq (.comp (.var 146 832034832038) [(.gen (.var 146 832043832047) (.var 43 832051832055) [(.bop true [arB 0,arB 1] 832059832112)])] arSc3 832033832113) (.lst [] 832117832119) 832033832119)])] arSc2 832011832120) 832004832120) []=some (.next,arF n [(43,lV fl),(259,lV (bestL m fl))],[]) :=
  ex_asg (v:=lV (bestL m fl)) (ev_comp (comp_v (by rfl) (items_ints (by kernel_rfl)) c2 (fl_le hlen (by decide))) (allDat_ints _)) rfl
 have e2:(oT (arC n u m lo fl) 47).ev (arF n (arR n fl (bestL m fl))) (.bop true [(.cmp .NotEq (.var 43 834098834102) (.lst [] 834106834108) 834098834108),(.cmp .Eq (.var 259 834113834117) (.lst [] 834121834123) 834113834123)] 834098834123) []=some (.dat (bD lo),[]):=by
  rw [hlo]
  exact ev_and2 (ev_cmp (H1:=[]) (a:=lV fl) (by kernel_rfl) (b:=.dat (.lst [])) (by kernel_rfl) (@ints_nnil inE _ _ _)) (ev_cmp (H1:=[]) (a:=lV (bestL m fl)) (by kernel_rfl) (b:=.dat (.lst [])) (by kernel_rfl) (@ints_nil inE _ _ _))
 refine runF_r (fi:=f__law_asked_right) (bs:=[(4,.rinst 4 0),(58,.dat (.lst (toks n))),(158,oV n)]) (v:=.dat (bD true)) (fm':=arF n (arR n fl (bestL m fl))) (H':=[]) (by kernel_rfl) (by kernel_rfl) ?_ rfl
 refine exs_n s1 (exs_n s2 (exs_n (ar_s3 u m lo fl (bestL m fl) n hn) (exs_r (ex_ret (n:=49) (e:=.bop true [.cmp .Eq (arQ 0) (.var 43 834047834051) 834011834051,.cmp .Eq (arQ 1) (.bop true [(.cmp .NotEq (.var 43 834098834102) (.lst [] 834106834108) 834098834108),(.cmp .Eq (.var 259 834113834117) (.lst [] 834121834123) 834113834123)] 834098834123) 834056834124] 834011834124) ?_))))
 exact ev_and2 (b1:=true) (b2:=true) (ev_cmp (ar_e4 u m lo fl (bestL m fl) n hn) (b:=lV fl) (by kernel_rfl) (@ints_same inE _ _ _)) (ev_cmp (ar_e5 u m lo fl (bestL m fl) n hn) e2 (by cases lo <;> rfl))
end
end
section
theorem any_rng {α:Type} {l:List α} {f:Nat→Bool} {g:α→Bool} (h:∀ {p q},l[p]?=some q→f p=g q):(List.range l.length).any f=l.any g:=by
 have:=congrArg (List.any · id) (range_map h)
 rwa [List.any_map,List.any_map] at this
theorem all_rng {α:Type} {l:List α} {f:Nat→Bool} {g:α→Bool} (h:∀ {p q},l[p]?=some q→f p=g q):(List.range l.length).all f=l.all g:=by
 have:=congrArg (List.all · id) (range_map h)
 rwa [List.all_map,List.all_map] at this
section
variable {css:List (List (List Nat))} {as:List (List Nat)}
theorem fitR_of {i a:Nat} (h:(fitL css as)[i]?=some a):rowN (fitR css as) i=rowN css a:=getD_at (by unfold fitR;rw [List.getElem?_map,h];rfl)
theorem fitL_beq {i j a b:Nat} (h1:(fitL css as)[i]?=some a) (h2:(fitL css as)[j]?=some b):Nat.beq j i=Nat.beq b a:=by
 rcases beq_cases j i with ⟨q,e⟩ | ⟨q,e⟩
 ·rw [q,← Option.some.inj ((congrArg (fun k=>(fitL css as)[k]?) e).symm.trans h2 |>.symm.trans h1),Nat.beq_refl]
 ·rcases beq_cases b a with ⟨_,e2⟩ | ⟨q2,_⟩
  ·obtain ⟨l1,g1⟩:=List.getElem?_eq_some_iff.mp h1
   obtain ⟨l2,g2⟩:=List.getElem?_eq_some_iff.mp h2
   have ne:=List.pairwise_iff_getElem.mp (fitL_nodup (css:=css) (as:=as))
   have z:=g2.trans (e2.trans g1.symm)
   exact absurd (Nat.le_antisymm (Nat.le_of_not_lt fun l=>ne _ _ l1 l2 l z.symm) (Nat.le_of_not_lt fun l=>ne _ _ l2 l1 l z)) e
  ·rw [q,q2]
theorem openB_eq (css:List (List (List Nat))) (as:List (List Nat)):openB css as=(!(fitL css as).isEmpty&&(bestL (msN css) (fitL css as)).isEmpty):=by
 unfold openB bestN
 cases hne:(fitL css as).isEmpty with
 | true=>rfl
 | false =>
  have hk:(fitR css as).length=(fitL css as).length:=List.length_map ..
  have h1:1≤(fitR css as).length:=by rw [hk];exact List.length_pos_iff.mpr fun q=>nft (hne.symm.trans (List.isEmpty_iff.mpr q))
  rw [best_none (m:=msN (fitR css as)) h1 msN_as,hk]
  unfold bestL
  rw [filter_any]
  refine congrArg (fun t=>!false&&!t) (any_rng fun {i a} e=>all_rng fun {j b} e'=>?_)
  unfold aheadB msN
  rw [fitR_of e,fitR_of e',fitL_beq e e']
variable {w:World} {h:Heap} {K:Frag} {φb:Nat→Option Addr} {t:Nat}
theorem rowN_app (h:t < css.length):rowN (css++[as]) t=rowN css t:=getD_at (by rw [List.getElem?_append_left h,rowN_at h])
theorem rowN_as:rowN (css++[as]) css.length=as:=getD_at (by rw [List.getElem?_append_right (Nat.le_refl _),Nat.sub_self];rfl)
theorem app_lots (R:Rows css) (A:Ask css as) (t:Nat):Lots (rowN (css++[as]) t):=getD_al (fun c h=>absurd h List.not_mem_nil) (fun c hc=>(List.mem_append.mp hc).elim (fun hc=>by
 obtain ⟨i,hi⟩:=List.mem_iff_getElem?.mp hc
 exact getD_at hi ▸ R.lots i) (one_mem A.s.l c)) t
theorem asked_t (E:Wd h K) (R:Rows css) (A:Ask css as):FT w h K φb k__law_asked_right 98 true [.lst (css.map rowV),rowV as] (bD true):=by
 have rl:∀ {t},t < css.length→rrD (css++[as]) t=rowV (rowN css t):=fun ht=>(rrD_lo (R.lt10 (Nat.le_of_lt ht))).trans (congrArg rowV (rowN_app ht))
 have ra:rrD (css++[as]) css.length=rowV as:=(rrD_lo (R.lt10 (Nat.le_refl _))).trans (congrArg rowV rowN_as)
 have kl:∀ {t},t < css.length→rrD (css++[as]) (10+t)=sigK (rowN css t):=fun ht=>(rrD_hi _).trans (congrArg sigK (rowN_app ht))
 have ka:rrD (css++[as]) (10+css.length)=sigK as:=(rrD_hi _).trans (congrArg sigK rowN_as)
 have er:subDL (rrD (css++[as])) (toks css.length)=css.map rowV:=toks_rows rl
 have es:subDL (rrD (css++[as])) (stoks css.length)=css.map sigK:=toks_f kl
 have c:ConOK w h K φb (fnI (rrD (css++[as])) (rrD_tk (app_lots R A))) (conT (arC css.length (fun t=>undS as (rowN css t)) (msN css) (openB css as) (fitL css as))):=by
  refine conT_ok (cons_mem ⟨rfl,fun x hx=>?_⟩ (cons_mem ⟨rfl,fun x hx=>?_⟩ (cons_mem ⟨rfl,fun x hx=>?_⟩ (cons_mem ⟨rfl,one_mem ?_⟩ (one_mem ⟨rfl,one_mem ?_⟩)))))
  ·obtain ⟨t,ht,rfl⟩:=List.mem_map.mp hx
   have ht:=List.mem_range.mp ht
   show FT w h K φb k__law_under 10 false [rrD (css++[as]) css.length,rrD (css++[as]) t] _
   rw [ra,rl ht]
   exact under_t E A.s.row (R.s ht).row
  ·obtain ⟨p,hp,rfl⟩:=List.mem_map.mp hx
   obtain ⟨h1,h2,h3⟩:=neqP_mem.mp (show (p.1,p.2)∈neqP css.length from hp)
   show FT w h K φb k__law_ahead 12 false [rrD (css++[as]) p.1,rrD (css++[as]) p.2] _
   rw [rl h1,rl h2]
   exact lahead_t E (R.s h1).row (R.s h2).row
  ·obtain ⟨t,ht,rfl⟩:=List.mem_map.mp hx
   show FT w h K φb k__law_sig 6 false [rrD (css++[as]) t] (rrD (css++[as]) (10+t))
   rcases Nat.lt_or_eq_of_le (Nat.le_of_lt_succ (List.mem_range.mp ht)) with q | rfl
   ·rw [rl q,kl q];exact sig_t E (R.s q)
   ·rw [ra,ka];exact sig_t E A.s
  ·show FT w h K φb k_fitting 46 true [.lst (subDL (rrD (css++[as])) (stoks css.length)),rrD (css++[as]) (10+css.length)] (.lst (subDL (rrD (css++[as])) (intsD (fitL css as))))
   rw [es,ka,ints_sub]
   exact fit_t E R A
  ·show FT w h K φb k_is_left_open 50 true [.lst (subDL (rrD (css++[as])) (stoks css.length)),rrD (css++[as]) (10+css.length)] _
   rw [es,ka]
   exact open_t E R A
 have r:FT w h K φb k__law_asked_right 98 true [.lst (subDL (rrD (css++[as])) (toks css.length)),rrD (css++[as]) css.length] (bD true):=layerT (ds:=[.lst (toks css.length),.opq css.length]) (r:=bD true) E c (ar_run (fun t=>undS as (rowN css t)) (msN css) (openB css as) (fitL css as) R.mem rfl (openB_eq css as))
 rwa [er,ra] at r
end
end
section
section
variable {oq:OpqE} {I:ItN} {C:Cfg} {n:Nat} {fm fm1 fm2:Fm} {H H1 H2:Hp} {α:Type}
theorem ev_call {f:MX} {xs:List MX} {p k:Nat} {vs:List AV} {v:AV} (hf:isGlob f=true) (h0:(ops I C n).ev fm f H=some (.fn k,H)) (h1:evs (ops I C n).ev fm xs H=some (vs,H1)) (h2:(ops I C n).call fm.dep (.fn k) vs H1=some (v,H2)):(ops I C (n+1)).ev fm (.call f xs p) H=some (v,H2) :=
 ops_ev (ob2_u (putRes false) (gb_u (ob2 ((ops I C n).ev fm f H) fun f H=>ob2 (evs (ops I C n).ev fm xs H) fun vs H=>Option.rec (ob ((ops I C n).call fm.dep f vs H) resV)
   (fun k=>cond (isDict k) (ob (dictV vs H) fun es=>resV (newDict es H)) (ob (primV k vs H) fun r=>some (r,H))) (prV f)) hf rfl (ob2_s h0 (ob2_s h1 (ob_u resV h2 rfl rfl)))) rfl rfl)
theorem cd_call {f:MX} {xs:List MX} {p:Nat} {t:Bool} (h:(ops I C n).ev fm (.call f xs p) H=some (.dat (bD t),H1)):(ops I C (n+1)).cd fm (.call f xs p) H=some (t,H1):=ops_cd (ob2_u (fun v H=>ob (boolV v) fun b=>some (b,H)) h rfl rfl)
theorem callFn_al {d k:Nat} {vs:List AV} {v:AV} (e:callFn C (ops I C n) d k vs H=some (v,H1)):(ops I C (n+1)).call (d+1) (.fn k) vs H=some (v,H1):=by
 refine ops_call ?_
 show alt (callFn C (ops I C n) d k vs H) _=_
 rw [e];rfl
theorem call_fn {d k:Nat} {fi:FnI} {vs:List AV} {bs:List (Nat×AV)} {v:AV} (hc:C.con k=none) (hf:C.fn k=some fi) (hi:fi.iso=false) (hb:bindP fi.ps fi.dfl vs=some bs) (h:exs (ops I C n).ex {sc:=fi.sc,vars:=bs,dep:=d} fi.body H=some (.ret v,fm1,H1)):(ops I C (n+1)).call (d+1) (.fn k) vs H=some (v,H1):=by
 refine callFn_al ?_
 unfold callFn
 rw [hc]
 show ob (C.fn k) _=_
 rw [hf]
 show ob (bindP fi.ps fi.dfl vs) _=_
 rw [hb]
 show cond fi.iso _ (runB (ops I C n) fi bs d H)=_
 rw [hi]
 exact ob3_u (fun f _ H=>some (retV f,H)) h rfl rfl
theorem call_con {d d' k:Nat} {g:List AV→Hp→Option (AV×Hp)} {vs:List AV} {v:AV} (hc:C.con k=some (d',g)) (hd:le d' d=true) (hg:g vs H=some (v,H1)):(ops I C (n+1)).call (d+1) (.fn k) vs H=some (v,H1):=by
 refine callFn_al ?_
 unfold callFn
 rw [hc]
 exact gb_u (g vs H) hd rfl hg
theorem ex_sub {x i e:MX} {p p' j k:Nat} {v:AV} {l:List AV} (he:(ops I C n).ev fm e H=some (v,H1)) (hx:(ops I C n).ev fm x H1=some (.loc j,H1)) (hi:(ops I C n).ev fm i H1=some (.dat (.int (.ofNat k)),H1)) (hH:H1[j]?=some (.list l)) (hk:k < l.length) (hl:l.length≤10000):(ops I C (n+1)).ex fm (.asg (.sub x i p) e p') H=some (.next,fm,H1.set j (.list (l.set k v))):=by
 have e1:lO H1[j]?=some l:=by rw [hH];rfl
 have e2:ob (lO H1[j]?) (fun l=>gb (Nat.blt k l.length&&le l.length 10000) (some (Fl.next,fm,H1.set j (.list (l.set k v)))))=some (.next,fm,H1.set j (.list (l.set k v))):=ob_u (fun l=>gb (Nat.blt k l.length&&le l.length 10000) (some (Fl.next,fm,H1.set j (.list (l.set k v))))) e1 rfl (gb_s ((Bool.and_eq_true ..).mpr ⟨Nat.ble_eq_true_of_le hk,Nat.ble_eq_true_of_le hl⟩) rfl)
 refine ops_ex (ob2_u (fun v H=>ob2 ((ops I C n).ev fm x H) fun a H=>ob2 ((ops I C n).ev fm i H) fun k H=>setI fm v H a k) he rfl (ob2_s hx (ob2_s hi ?_)))
 show alt (ob (lO H1[j]?) _) _=_
 rw [e2];rfl
theorem ev_sub {x i:MX} {p:Nat} {a k v:AV} (h1:(ops I C n).ev fm x H=some (a,H)) (h2:(ops I C n).ev fm i H=some (k,H1)) (h3:subV C.base H1 a k=some v):(ops I C (n+1)).ev fm (.sub x i p) H=some (v,H1):=ops_ev (ob2_u (fun a H=>ob2 ((ops I C n).ev fm i H) fun k H=>ob (subV C.base H a k) fun v=>some (v,H)) h1 rfl (ob2_s h2 (ob_s h3 rfl)))
theorem bin_mul (H:Hp) {i j:Int} (h:smallI j=true):binV .Mult H (.dat (.int i)) (.dat (.int j))=some (.val (.dat (.int (i * j)))):=gb_u (vI (i * j)) (by rw [h];exact Bool.or_true _) rfl rfl
theorem evs_2 {x y:MX} {v u:AV} (h:(ops I C n).ev fm x H=some (v,H1)) (h2:(ops I C n).ev fm y H1=some (u,H2)):evs (ops I C n).ev fm [x,y] H=some ([v,u],H2):=ob2_u (fun v H=>ob2 (evs (ops I C n).ev fm [y] H) fun vs H=>some (v::vs,H)) h rfl (ob2_s (evs_1 h2) rfl)
theorem compIt_eff {cd:Fm→MX→Hp→Option (Bool×Hp)} {rest:Fm→Hp→Option (List AV×Hp)} {t:MX} {f:α→AV} (P:Hp→Prop) (Q:AV→Prop) (hn:newT fm t=true) {l:List α}:∀ {H:Hp},P H→(∀ x∈l,∀ H,P H→∃ fm1,asgT fm t (f x)=some fm1∧∃ v H',rest fm1 H=some ([v],H')∧P H'∧Q v)→∃ vs H',compIt cd rest t [] fm (l.map f) H=some (vs,H')∧P H'∧vs.length=l.length∧∀ v∈vs,Q v:=by
 induction l with
 | nil=>exact fun {H} hp _=>⟨[],H,rfl,hp,rfl,fun v q=>absurd q List.not_mem_nil⟩
 | cons x r ih =>
  intro H hp h
  obtain ⟨fm1,h1,v,H',h2,h3,h4⟩:=h x (List.mem_cons_self ..) H hp
  obtain ⟨vs,H2,i1,i2,i3,i4⟩:=ih h3 fun y hy=>h y (List.mem_cons_of_mem _ hy)
  exact ⟨v::vs,H2,gb_u (ob (asgT fm t (f x)) fun fm1=>ob2 (cds cd fm1 [] H) fun b H=>cond b (ob2 (rest fm1 H) fun xs H=>ob2 (compIt cd rest t [] fm (r.map f) H) fun ys H=>some (xs++ys,H)) (compIt cd rest t [] fm (r.map f) H)) hn rfl (ob_s h1 (ob2_s rfl (ob2_u (fun xs H=>ob2 (compIt cd rest t [] fm (r.map f) H) fun ys H=>some (xs++ys,H)) h2 rfl (ob2_s i1 rfl)))),i2,congrArg (·+1) i3,cons_mem h4 i4⟩
theorem forIt_eff {exb:Fm→Hp→Option (Fl×Fm×Hp)} {t:MX} {f:α→AV} (inv:Fm→Hp→Prop) {l:List α}:∀ {fm:Fm} {H:Hp},inv fm H→(∀ x∈l,∀ fm H,inv fm H→∃ fm1 fm2 H2,asgT fm t (f x)=some fm1∧exb fm1 H=some (.next,fm2,H2)∧inv fm2 H2)→∃ fm' H',inv fm' H'∧forIt exb t (l.map f) fm H=some (.next,fm',H'):=by
 induction l with
 | nil=>exact fun {fm H} hi _=>⟨fm,H,hi,rfl⟩
 | cons x r ih =>
  intro fm H hi h
  obtain ⟨fm1,fm2,H2,h1,h2,h3⟩:=h x (List.mem_cons_self ..) fm H hi
  obtain ⟨fm',H',i1,i2⟩:=ih h3 fun y hy=>h y (List.mem_cons_of_mem _ hy)
  exact ⟨fm',H',i1,ob_u (fun fm=>ob3 (exb fm _) fun f' fm H=>flr f' (forIt exb t (r.map f) fm H) fun r=>some (.ret r,fm,H)) h1 rfl (ob3_s h2 i2)⟩
end
theorem mod_nat (a:Int) {m:Nat} (h:0 < m):∃ x:Nat,x < m∧a % (m:Int)=x:=by
 have h1:=Int.emod_nonneg a (b:=m) (by omega)
 have h2:=Int.emod_lt_of_pos a (b:=m) (by omega)
 exact ⟨(a % (m:Int)).toNat,by omega,by omega⟩
noncomputable def siO (a b:Int):AO:=.list [.dat (.int a),.dat (.int b)]
noncomputable def grF (m d:Nat) (r:List (Nat×AV)):Fm:=⟨f__law_grain.sc,(242,.loc 0)::(59,iV m)::r,d⟩
noncomputable def grS:MS:=mS b__law_grain 0
noncomputable def grR:MX:=itS (mS b__law_grain 2)
section
variable (con:Con) (T:Hp) (a b c:Int) (d:Nat)
noncomputable abbrev oC (con:Con) (n:Nat):Ops:=@ops opq0.toOpqE itN (cfg base1 con) n
noncomputable def grM:List Nat:=[2,3,4,10]
theorem grM_e {P:Nat→Prop} (h1:P 2) (h2:P 3) (h3:P 4) (h4:P 10):∀ m∈grM,P m:=cons_mem h1 (cons_mem h2 (cons_mem h3 (one_mem h4)))
theorem gr_cd (n:Nat):∀ m∈grM,(oC con (n+9)).cd (grF m d []) (itS grS) (siO a b::T)=some (decide (0 < a),siO a b::T):=grM_e (by kernel_rfl) (by kernel_rfl) (by kernel_rfl) (by kernel_rfl)
theorem gr_a (n:Nat):∀ m∈grM,exs (oC con (n+9)).ex (grF m d []) (bodyS grS) (siO a b::T)=some (.ret (.dat (.int (a % m))),grF m d [(243,.dat (.int (a % m)))],siO (a / m) b::T):=grM_e (by kernel_rfl) (by kernel_rfl) (by kernel_rfl) (by kernel_rfl)
theorem gr_r (n:Nat):∀ m∈grM,(oC con (n+9)).ev (grF m d []) grR (siO a b::T)=some (.dat (.int (b / 43 % m)),siO a b::T):=grM_e (by kernel_rfl) (by kernel_rfl) (by kernel_rfl) (by kernel_rfl)
theorem gr_call (hc:con k__law_grain=none) (n:Nat) {m:Nat} (hm:m∈grM):∃ (r:Nat) (a' b':Int),r < m∧(oC con (n+11)).call (d+1) (.fn k__law_grain) [.loc 0,iV m] (siO a b::T)=some (iV r,siO a' b'::T):=by
 have hm0:=grM_e (P:=fun m=>0 < m) (by decide) (by decide) (by decide) (by decide) m hm
 have go:∀ {v H'} {fm':Fm},exs (oC con (n+10)).ex (grF m d []) [.ifs (itS grS) (bodyS grS) [] 771004774019,mS b__law_grain 1,.ret grR 776004776031] (siO a b::T)=some (.ret v,fm',H')→(oC con (n+11)).call (d+1) (.fn k__law_grain) [.loc 0,iV m] (siO a b::T)=some (v,H'):=fun e =>
  call_fn (fi:=f__law_grain) (bs:=[(242,.loc 0),(59,iV m)]) hc (by kernel_rfl) rfl (by kernel_rfl) e
 have h1:=gr_cd con T a b d n m hm
 by_cases q:0 < a
 ·obtain ⟨x,hx,e⟩:=mod_nat a hm0
  rw [decide_eq_true q] at h1
  have h2:=gr_a con T a b d n m hm
  rw [e] at h2
  exact ⟨x,a / m,b,hx,go (exs_r (ex_ifs h1 h2))⟩
 ·obtain ⟨x,hx,e⟩:=mod_nat ((b * 69621+19) % 2147483077 / 43) hm0
  rw [decide_eq_false q] at h1
  have h2:=gr_r con T a ((b * 69621+19) % 2147483077) d n m hm
  rw [e] at h2
  have he:(oC con (n+9)).ev (grF m d []) (.bin .Mod (.bin .Add (.bin .Mult (.call (.glob 239 775015775018) [(.sub (.var 242 775019775023) (.const (.int 1) 775024775025) 775019775026)] 775015775027) (.const (.int 69621) 775030775035) 775015775035) (.const (.int 19) 775038775040) 775015775040) (.const (.int 2147483077) 775044775054) 775014775054) (siO a b::T)=some (.dat (.int ((b * 69621+19) % 2147483077)),siO a b::T) :=
   ev_bin (H1:=siO a b::T) (a:=.dat (.int (b * 69621+19))) (b:=.dat (.int 2147483077)) (ev_bin (H1:=siO a b::T) (a:=.dat (.int (b * 69621))) (b:=.dat (.int 19)) (ev_bin (H1:=siO a b::T) (a:=.dat (.int b)) (b:=.dat (.int 69621)) (by kernel_rfl) (by kernel_rfl) (bin_mul _ rfl)) (by kernel_rfl) rfl) (by kernel_rfl) rfl
  exact ⟨x,a,(b * 69621+19) % 2147483077,hx,go (exs_n (ex_ifs h1 rfl) (exs_n (ex_sub (j:=0) (k:=1) (l:=[.dat (.int a),.dat (.int b)]) he (by kernel_rfl) (by kernel_rfl) rfl (Nat.le_refl 2) (Nat.le_of_ble_eq_true rfl)) (exs_r (ex_ret h2))))⟩
end
end
section
noncomputable abbrev HC:=List AV→Hp→Option (AV×Hp)
noncomputable def conW (gR gA:HC):Con:=conL [(k__law_chain,6,pureE (tabF false ((List.range 10).map fun x=>([sN x],lotV (upN x))))),(k__law_rows_right,98,gR),(k__law_asked_right,98,gA)]
section
variable {oq:OpqE} {I:ItN} {C:Cfg} {n:Nat} {fm fm1:Fm} {H H1:Hp}
theorem ex_asgT {ts:List MX} {e:MX} {k p p':Nat} {v:AV} (he:(ops I C n).ev fm e H=some (v,H1)) (ho:tupOK (.tup ts k p) e=true) (ht:asgT fm (.tup ts k p) v=some fm1):(ops I C (n+1)).ex fm (.asg (.tup ts k p) e p') H=some (.next,fm1,H1):=ops_ex (ob2_u (fun v H=>gb (tupOK (.tup ts k p) e) (ob (asgT fm (.tup ts k p) v) fun fm=>some (.next,fm,H))) he rfl (gb_s ho (ob_s ht rfl)))
theorem ev_tup {xs:List MX} {k p:Nat} {vs:List AV} (h:evs (ops I C n).ev fm xs H=some (vs,H1)) (hl:le vs.length 10000=true):(ops I C (n+1)).ev fm (.tup xs k p) H=some (mkTup vs,H1):=ops_ev (ob2_u (fun vs H=>gb (le vs.length 10000) (some (mkTup vs,H))) h rfl (gb_s hl rfl))
end
noncomputable def namesD:DV:=lotV (List.range 10)
theorem name_at (H:Hp):(List.range 10).map (fun x=>subV base1 H (.dat namesD) (iV x))=mapB (fun x=>some (sX x)) (List.range 10):=by kernel_rfl
noncomputable def srt (x y:Nat):List Nat:=cond (strLt (nmC y) (nmC x)) [y,x] [x,y]
theorem srt_lot:(List.range 10).all (fun x=>(List.range 10).all fun y=>(leN y x||leN x y)||decide (srt x y∈lotL))=true:=by decide +kernel
noncomputable def ltF (r:List (Nat×AV)):Fm:=⟨f__law_lot.sc,(242,.loc 0)::r,119⟩
noncomputable abbrev ltR (x y:Nat):List (Nat×AV):=[(43,.dat namesD),(44,sX x),(92,sX y)]
noncomputable def ltS:MS:=mS b__law_lot 2
noncomputable def ltX (k:Nat):MX:=kid (itS ltS) k
section
variable (gR gA:HC) (H:Hp)
theorem lt_s1:(oC (conW gR gA) 50).ex (ltF []) (mS b__law_lot 0) H=some (.next,ltF [(43,.dat namesD)],H):=by kernel_rfl
theorem lt_c1:names100.map (fun p=>(oC (conW gR gA) 48).cd (ltF (ltR p.1 p.2)) (ltX 1) H)=mapB (fun p=>some (leN p.2 p.1,H)) names100:=by kernel_rfl
theorem lt_c2:names100.map (fun p=>(oC (conW gR gA) 48).cd (ltF (ltR p.1 p.2)) (ltX 2) H)=mapB (fun p=>some (leN p.1 p.2,H)) names100:=by kernel_rfl
theorem lt_r1 (x y:Nat):exs (oC (conW gR gA) 49).ex (ltF (ltR x y)) (bodyS ltS) H=some (.ret (.dat (lotV [x])),ltF (ltR x y),H):=by kernel_rfl
theorem lt_r2:names100.map (fun p=>(oC (conW gR gA) 50).ex (ltF (ltR p.1 p.2)) (mS b__law_lot 3) H)=mapB (fun p=>some (.ret (.dat (lotV (srt p.1 p.2))),ltF (ltR p.1 p.2),H)) names100:=by kernel_rfl
end
theorem lot_call (gR gA:HC) (T:Hp) (a b:Int):∃ l∈lotL,∃ a' b':Int,(oC (conW gR gA) 51).call 120 (.fn k__law_lot) [.loc 0] (siO a b::T)=some (.dat (lotV l),siO a' b'::T):=by
 have hg:conW gR gA k__law_grain=none:=by kernel_rfl
 obtain ⟨x,a1,b1,hx,e1⟩:=gr_call (conW gR gA) T a b 118 hg 35 (m:=10) (by decide)
 obtain ⟨y,a2,b2,hy,e2⟩:=gr_call (conW gR gA) T a1 b1 118 hg 35 (m:=10) (by decide)
 obtain ⟨r3,a3,b3,h3,e3⟩:=gr_call (conW gR gA) T a2 b2 118 hg 35 (m:=3) (by decide)
 have s2:(oC (conW gR gA) 50).ex (ltF [(43,.dat namesD)]) (.asg (.tup [(.var 44 784004784007),(.var 92 784009784014)] 0 784004784014) (.tup [(.sub (.var 43 784018784022) (.call (.glob 245 784023784033) [(.var 242 784034784038),(.const (.int 10) 784040784042)] 784023784043) 784018784044),(.sub (.var 43 784046784050) (.call (.glob 245 784051784061) [(.var 242 784062784066),(.const (.int 10) 784068784070)] 784051784071) 784046784072)] 0 784017784073) 784004784073) (siO a b::T)=some (.next,ltF (ltR x y),siO a2 b2::T) :=
  ex_asgT (v:=.dat (.tup [sN x,sN y])) (ev_tup (vs:=[sX x,sX y]) (evs_2 (ev_sub (n:=47) (a:=.dat namesD) (by kernel_rfl) (ev_call (k:=k__law_grain) (vs:=[.loc 0,iV 10]) rfl (by kernel_rfl) (by kernel_rfl) e1) (mem_at (name_at _) (List.mem_range.mpr hx))) (ev_sub (n:=47) (a:=.dat namesD) (by kernel_rfl) (ev_call (k:=k__law_grain) (vs:=[.loc 0,iV 10]) rfl (by kernel_rfl) (by kernel_rfl) e2) (mem_at (name_at _) (List.mem_range.mpr hy)))) rfl) (by kernel_rfl) rfl
 have h100:=n100 hx hy
 have c1:=mem_at (lt_c1 gR gA (siO a3 b3::T)) h100
 have c2:=mem_at (lt_c2 gR gA (siO a3 b3::T)) h100
 dsimp only at c1 c2
 have c0:(oC (conW gR gA) 48).cd (ltF (ltR x y)) (.cmp .Gt (.call (.glob 245 785007785017) [(.var 242 785018785022),(.const (.int 3) 785024785025)] 785007785026) (.const (.int 0) 785029785030) 785007785030) (siO a2 b2::T)=some (decide ((0:Int) < r3),siO a3 b3::T) :=
  cd_cmp (a:=iV r3) (b:=.dat (.int 0)) (ev_call (k:=k__law_grain) (vs:=[.loc 0,iV 3]) rfl (by kernel_rfl) (by kernel_rfl) e3) (by kernel_rfl) rfl
 have cd:(oC (conW gR gA) 49).cd (ltF (ltR x y)) (.bop false [(.cmp .Gt (.call (.glob 245 785007785017) [(.var 242 785018785022),(.const (.int 3) 785024785025)] 785007785026) (.const (.int 0) 785029785030) 785007785030),ltX 1,ltX 2] 785007785086) (siO a2 b2::T)=some (decide ((0:Int) < r3)||(leN y x||leN x y),siO a3 b3::T):=by
  refine cd_bop (bopC_c c0 (fun e=>bopC_c c1 (fun e'=>bopC_c c2 (fun e''=>?_) fun e''=>?_) fun e'=>?_) fun e=>?_)
  ·rw [bopC_n,e,e',e''];rfl
  ·rw [e,e'];rfl
  ·rw [e,eq_true_of_ne_false e'];rfl
  ·rw [eq_true_of_ne_false e];rfl
 have go:∀ {v H'} {fm':Fm},exs (oC (conW gR gA) 50).ex (ltF (ltR x y)) [.ifs (.bop false [(.cmp .Gt (.call (.glob 245 785007785017) [(.var 242 785018785022),(.const (.int 3) 785024785025)] 785007785026) (.const (.int 0) 785029785030) 785007785030),ltX 1,ltX 2] 785007785086) (bodyS ltS) [] 785004786020,mS b__law_lot 3] (siO a2 b2::T)=some (.ret v,fm',H')→(oC (conW gR gA) 51).call 120 (.fn k__law_lot) [.loc 0] (siO a b::T)=some (v,H'):=fun e =>
  call_fn (fi:=f__law_lot) (bs:=[(242,.loc 0)]) (by kernel_rfl) (by kernel_rfl) rfl (by kernel_rfl) (exs_n (lt_s1 gR gA _) (exs_n s2 e))
 cases q:decide ((0:Int) < r3)||(leN y x||leN x y) with
 | true =>
  rw [q] at cd
  exact ⟨[x],one_lot hx,a3,b3,go (exs_r (ex_ifs cd (lt_r1 gR gA _ x y)))⟩
 | false =>
  rw [q] at cd
  refine ⟨srt x y,?_,a3,b3,go (exs_n (ex_ifs cd rfl) (exs_r (mem_at (lt_r2 gR gA _) h100)))⟩
  have:=List.all_eq_true.mp (List.all_eq_true.mp srt_lot x (List.mem_range.mpr hx)) y (List.mem_range.mpr hy)
  rw [(Bool.or_eq_false_iff.mp q).2] at this
  exact of_decide_eq_true this
end
section
structure RowsX (mm:Nat) (css:List (List (List Nat))):Prop where
 m:mm∈[1,2]
 n:css.length=3∨css.length=4∨css.length=5
 r:∀ {i c},css[i]?=some c→(Lots c∧c.length=mm)∨(i=0∧∃ d,(Lots d∧d.length=mm)∧c=d++[[7]])
theorem seven_lot:[7]∈lotL:=one_lot (by decide)
theorem put_lots {d:List (List Nat)} (h:Lots d):Lots (d++[[7]]):=fun c hc=>(List.mem_append.mp hc).elim (h c) (one_mem seven_lot c)
theorem two_e {P:Nat→Prop} (h1:P 1) (h2:P 2):∀ m∈[1,2],P m:=cons_mem h1 (one_mem h2)
theorem rowX_len {mm:Nat} (hm:mm∈[1,2]) {c:List (List Nat)} (h:Lots c) (hl:c.length=mm):SigP c∧SigP (c++[[7]]):=by
 have ln:∀ {a},a∈c→a.length∈[1,2]:=fun ha=>memN_mem (List.all_eq_true.mp lot_len _ (h _ ha))
 have key:SigLen c∧SigLen (c++[[7]]):=by
  refine two_e (P:=fun m=>c.length=m→SigLen c∧SigLen (c++[[7]])) (fun hl=>?_) (fun hl=>?_) mm hm hl
  ·obtain ⟨a,rfl⟩:=len1 hl
   exact two_e (P:=fun n=>[n]∈nasL∧[n,1]∈nasL) (by decide) (by decide) _ (ln (List.mem_cons_self ..))
  ·obtain ⟨a,b,rfl⟩:=len2 hl
   exact two_e (P:=fun n=>∀ m∈[1,2],[n,m]∈nasL∧[n,m,1]∈nasL) (by decide) (by decide) _ (ln (List.mem_cons_self ..)) _ (ln (List.mem_cons_of_mem _ (List.mem_cons_self ..)))
 exact ⟨⟨h,key.1⟩,put_lots h,key.2⟩
theorem ok_len:∀ mm∈[1,2],okLen mm mm∧okLen (mm+1) mm∧okLen mm (mm+1):=two_e (by decide) (by decide)
section
variable {mm:Nat} {css:List (List (List Nat))} {as:List (List Nat)}
theorem put_len {d:List (List Nat)} (h:d.length=mm):(d++[[7]]).length=mm+1:=by rw [List.length_append,h];rfl
theorem RowsX.sig (R:RowsX mm css) {i:Nat} {c:List (List Nat)} (h:css[i]?=some c):SigP c:=(R.r h).elim (fun z=>(rowX_len R.m z.1 z.2).1) fun ⟨_,d,z,e⟩=>e ▸ (rowX_len R.m z.1 z.2).2
theorem RowsX.rows (R:RowsX mm css):Rows css:=⟨R.n,fun hn hi hj=>⟨R.sig hi,R.sig hj,by
 obtain ⟨k1,k2,k3⟩:=ok_len _ R.m
 rcases R.r hi with ⟨_,e⟩ | ⟨z,d,⟨_,e⟩,rfl⟩
 ·rw [e]
  rcases R.r hj with ⟨_,e⟩ | ⟨_,d,⟨_,e⟩,rfl⟩
  ·rw [e];exact k1
  ·rw [put_len e];exact k3
 ·rw [put_len e]
  rcases R.r hj with ⟨_,e⟩ | ⟨z',_⟩
  ·rw [e];exact k2
  ·exact absurd (z.trans z'.symm) hn⟩⟩
theorem RowsX.ask (R:RowsX mm css) (ha:Lots as) (hl:as.length=mm):Ask css as:=by
 have s:=(rowX_len R.m ha hl).1
 refine ⟨s,fun hi=>⟨s,R.sig (rowN_at hi),?_⟩⟩
 obtain ⟨k1,_,k3⟩:=ok_len _ R.m
 rw [hl]
 rcases R.r (rowN_at hi) with ⟨_,e⟩ | ⟨_,d,⟨_,e⟩,e'⟩
 ·rw [e];exact k1
 ·rw [e',put_len e];exact k3
theorem rowsX_of (hm:mm∈[1,2]) (hn:css.length=3∨css.length=4∨css.length=5) (h:∀ c∈css,Lots c∧c.length=mm):RowsX mm css:=⟨hm,hn,fun e=>.inl (h _ (List.mem_of_getElem? e))⟩
theorem rowsX_put {c0:List (List Nat)} (hm:mm∈[1,2]) (hn:(c0::css).length=3∨(c0::css).length=4∨(c0::css).length=5) (h:∀ c∈c0::css,Lots c∧c.length=mm):RowsX mm ((c0++[[7]])::css):=⟨hm,hn,fun {i c} e=>by
 cases i with
 | zero=>exact .inr ⟨rfl,c0,h c0 (List.mem_cons_self ..),(Option.some.inj e).symm⟩
 | succ i=>exact .inl (h c (List.mem_cons_of_mem _ (List.mem_of_getElem? e)))⟩
end
noncomputable def css0:List (List (List Nat)):=[[[0],[7]],[[7],[0]],[[0],[5]]]
theorem css0_rows:Rows css0:=by
 have two:∀ {x y:Nat},x < 10→y < 10→Lots [[x],[y]]∧[[x],[y]].length=2:=fun hx hy=>⟨cons_mem (one_lot hx) (one_mem (one_lot hy)),rfl⟩
 exact (rowsX_of (mm:=2) (by decide) (.inl rfl) (cons_mem (two (by decide) (by decide)) (cons_mem (two (by decide) (by decide)) (one_mem (two (by decide) (by decide)))))).rows
theorem ex_list {α β:Type} {f:α→β} {p:α→Prop} {vs:List β}:(∀ v∈vs,∃ l,p l∧v=f l)→∃ ls:List α,vs=ls.map f∧∀ l∈ls,p l:=by
 induction vs with
 | nil=>exact fun _=>⟨[],rfl,fun l q=>absurd q List.not_mem_nil⟩
 | cons v r ih =>
  intro h
  obtain ⟨l,h1,rfl⟩:=h v (List.mem_cons_self ..)
  obtain ⟨ls,rfl,h2⟩:=ih fun v q=>h v (List.mem_cons_of_mem _ q)
  exact ⟨l::ls,rfl,cons_mem h1 h2⟩
noncomputable def rowsAt (v:AV) (H:Hp) (css:List (List (List Nat))):Prop:=v=.dat (.lst (css.map rowV))∨∃ j,v=.loc j∧H[j]?=some (.list (datL (css.map rowV)))
noncomputable def RightArgs (vs:List AV) (H:Hp):Prop:=∃ v css,vs=[.rinst 4 0,v]∧Rows css∧rowsAt v H css
noncomputable def AskedArgs (vs:List AV) (H:Hp):Prop:=∃ v css as,vs=[.rinst 4 0,v,.dat (rowV as)]∧Rows css∧Ask css as∧rowsAt v H css
open Classical in
noncomputable def gIf (P:List AV→Hp→Prop):HC:=fun vs H=>if P vs H then some (.dat (bD true),H) else none
theorem gIf_of {P:List AV→Hp→Prop} {vs:List AV} {H:Hp} (h:P vs H):gIf P vs H=some (.dat (bD true),H):=if_pos h
theorem gIf_e {P:List AV→Hp→Prop} {vs:List AV} {H H':Hp} {v:AV} {X:Prop} (h:gIf P vs H=some (v,H')) (k:P vs H→.dat (bD true)=v→H=H'→X):X:=by
 by_cases q:P vs H
 ·exact pr_e ((if_pos q).symm.trans h) (k q)
 ·exact nos ((if_neg q).symm.trans h)
noncomputable def conLaw:Con:=conW (gIf RightArgs) (gIf AskedArgs)
section
variable {g:Gd} {j d:Nat} {H:Hp} {w:Wo} {v:AV} {x:Value} {css:List (List (List Nat))}
theorem frz_call {vs vs':List AV} {t:Bool} (h:CallG g j d vs' [] (.dat (bD t)) []) (hr:∀ {w xs},Rep g w H→VRL g w.k vs xs→∃ k',Rep g ⟨k',w.s⟩ []∧VRL g k' vs' xs):CallG g j d vs H (.dat (bD t)) H:=fun {A w R xs} hh hd hu Rp r P=>by
 obtain ⟨k',R',r'⟩:=hr Rp r
 refine h (w:=⟨k',w.s⟩) hh hd hu R' r' fun w' x X R'' rx=>?_
 have kp:∀ {b o},w.h b=some o→w'.h b=some o:=fun e=>X.keep (fun n q=>absurd (R'.dom q) (Nat.not_lt_zero _)) id e
 exact P ⟨w.k,w'.s⟩ x ⟨X.sh,X.ex,fun _ _ e=>kp e,.rfl,.inl,.inl⟩ (Rp.mv fun _ _ _ e=>kp e) rx
theorem rows_rel (R:Rep g w H) (e:rowsAt v H css) (r:VR g w.k v x):∃ k',Rep g ⟨k',w.s⟩ []∧VR g k' (.dat (.lst (css.map rowV))) x∧∀ {u y},closedV u=true→VR g w.k u y→VR g k' u y:=by
 rcases e with rfl | ⟨j,rfl,e⟩
 ·exact ⟨_,R.iso,closed_up (k:=w.k) rfl rfl r,fun h r=>closed_up (k:=w.k) rfl h r⟩
 ·obtain ⟨a,ea,rfl⟩:=r
  refine R.get e ea fun ob eo h=>?_
  obtain ⟨us,n,rfl,rl⟩:=h
  have F:Free (isoW w) a:=⟨R.dj ea,fun n q=>nos q⟩
  have rl2:VRL g (isoW w).k (datL (css.map rowV)) us:=datL_of.mp (datL_of (k:=w.k).mpr rl)
  exact ⟨_,R.iso.frz F eo,lst_mk ⟨n,frz_at⟩ (LR.up rl2 (frz_le F.1)),fun h r=>(closed_up (k:=w.k) (k':=(isoW w).k) rfl h r).up (frz_le F.1)⟩
end
section
variable {w:World} {h:Heap} {K:Frag} {φb:Nat→Option Addr} {vs:List AV} {H:Hp}
theorem right_c (E:Wd h K) (ha:RightArgs vs H):CallG (gC w h K φb noC .opq) k__law_rows_right 98 vs H (.dat (bD true)) H:=by
 obtain ⟨v,css,rfl,R,e⟩:=ha
 refine @frz_call (gC w h K φb noC .opq) _ _ H _ _ true (right_t E R []).c fun {w xs} Rp r=>?_
 obtain ⟨x,us,rfl,r1,y,us',rfl,r2,rfl⟩:=r
 obtain ⟨k',R',rk,cl⟩:=rows_rel Rp e r2
 exact ⟨k',R',.cons (cl rfl r1) (.one rk)⟩
theorem asked_c (E:Wd h K) (ha:AskedArgs vs H):CallG (gC w h K φb noC .opq) k__law_asked_right 98 vs H (.dat (bD true)) H:=by
 obtain ⟨v,css,as,rfl,R,A0,e⟩:=ha
 refine @frz_call (gC w h K φb noC .opq) _ _ H _ _ true (asked_t E R A0 []).c fun {w xs} Rp r=>?_
 obtain ⟨x,us,rfl,r1,y,us',rfl,r2,z,us'',rfl,r3,rfl⟩:=r
 obtain ⟨k',R',rk,cl⟩:=rows_rel Rp e r2
 exact ⟨k',R',.cons (cl rfl r1) (.cons rk (.one (cl rfl r3)))⟩
theorem conLaw_ok (E:Wd h K):ConOK w h K φb opq0 conLaw:=conL_ok (cons_mem (le_ok (e:=⟨k__law_chain,6,false,(List.range 10).map fun x=>([sN x],lotV (upN x))⟩) ⟨rfl,fun x hx=>by
 obtain ⟨y,hy,rfl⟩:=List.mem_map.mp hx
 show FT w h K φb k__law_chain 6 false [sN y] (subD .opq (lotV (upN y)))
 rw [lotV_sub]
 exact chain_t E (List.mem_range.mp hy)⟩) (cons_mem ⟨Nat.le_of_ble_eq_true rfl,fun e=>gIf_e e fun ha e1 e2=>by
 rw [← e1,← e2];exact (tok_put (con:=noC)).mpr (right_c E ha)⟩ (one_mem ⟨Nat.le_of_ble_eq_true rfl,fun e=>gIf_e e fun ha e1 e2=>by
 rw [← e1,← e2];exact (tok_put (con:=noC)).mpr (asked_c E ha)⟩)))
end
end
section
theorem rangeL0 (n:Nat):rangeL 0 (n:Int)=(List.range n).map iV:=by
 have:=rangeL_nat 0 n
 rwa [Nat.sub_zero,← List.range_eq_range'] at this
theorem rangeI_1 {b:Int} (hb:inR b=true):rangeI [.dat (.int b)]=some (rangeL 0 b):=by
 show alt (gb (inR b) (some (rangeL 0 b))) _=_
 rw [hb];rfl
theorem inR_nat {n:Nat} (h:n≤1000):inR (n:Int)=true:=(Bool.and_eq_true ..).mpr ⟨decide_eq_true (by omega),decide_eq_true (by omega)⟩
section
variable {oq:OpqE} {C:Cfg} {n:Nat} {fm:Fm} {H H1:Hp}
theorem items_range {t:MX} {xs:List MX} {q p m:Nat} (h1:isGl fm.sc 113=true) (h:evs (ops itN C n).ev fm xs H=some ([iV m],H1)) (hb:m≤1000):items itN (ops itN C n) fm t (.call (.glob 113 q) xs p) H=some ((List.range m).map iV,H1):=by
 have e:itOf itN fm.sc 113=some (false,rangeI):=by
  unfold itOf
  rw [h1];rfl
 have r:rangeI [iV m]=some ((List.range m).map iV):=(rangeI_1 (inR_nat hb)).trans (congrArg some (rangeL0 m))
 have e2:(ob (asCall (.call (.glob 113 q) xs p)) fun p=>ob (asGlob p.1) fun g=>ob (itOf itN fm.sc g) fun q=>some (p.2,q))=some (xs,false,rangeI):=ob_u (fun q=>some (xs,q)) e rfl rfl
 unfold items
 rw [e2]
 exact ob2_u (fun vs H=>ob (rangeI vs) fun x=>some (x,H)) h rfl (ob_s r rfl)
theorem ev_lst1 {I:ItN} {x:MX} {p:Nat} {d:DV} (h:(ops I C n).ev fm x H=some (.dat d,H1)):(ops I C (n+1)).ev fm (.lst [x] p) H=some (.dat (.lst [d]),H1):=ops_ev (ob2_u (putRes false) (ob2_u (fun vs H=>gb (le vs.length 10000) (some (Res.newl vs,H))) (evs_1 h) rfl rfl) rfl rfl)
end
noncomputable def lwF (xs:AV) (r:List (Nat×AV)):Fm:=⟨f_law.sc,(237,xs)::(4,.rinst 4 0)::(242,.loc 0)::r,120⟩
noncomputable abbrev oL (n:Nat):Ops:=oC conLaw n
noncomputable def lwE (i:Nat) (l:List Nat):MX:=pth (itS (mS b_law i)) l
noncomputable def lwSc1:Sc:=[(0,.local),(78,.local),(113,.globalImplicit),(59,.free),(242,.free)]
noncomputable def lwSc2:Sc:=[(0,.local),(122,.local),(265,.globalImplicit),(242,.free)]
noncomputable def lwX:MX:=lwE 3 [0,0,0]
noncomputable def lwC:MX:=.comp lwX [(.gen (.var 122 840032840036) (lwE 3 [0,0,1,1]) [])] lwSc2 840012840052
section
variable (xs:AV) (H:Hp)
theorem lw_lit:(oL 51).ev (lwF xs []) (lwE 1 [0,2]) H=some (.dat (.lst (css0.map rowV)),H):=by kernel_rfl
theorem lw_rng (k:AV):∀ mm∈[1,2],items itN (oL 52) ⟨lwSc1,[(242,.loc 0),(59,iV mm),(78,k)],120⟩ (.var 122 840032840036) (lwE 3 [0,0,1,1]) H=some ((List.range mm).map iV,H):=two_e (by kernel_rfl) (by kernel_rfl)
end
section
variable {xs v:AV} {r:List (Nat×AV)} {H:Hp} {css:List (List (List Nat))} {mm:Nat} {a b:Int}
theorem right_st {x:MX} {p q q' q1 q2:Nat} {body:List MS} (hx:(oL 51).ev (lwF xs r) x H=some (v,H)) (R:Rows css) (e:rowsAt v H css):(oL 55).ex (lwF xs r) (.ifs (.not (.call (.glob 264 p) [.var 4 q,x] q') q1) body [] q2) H=some (.next,lwF xs r,H) :=
 ex_ifs (cd_not (cd_call (t:=true) (ev_call (k:=k__law_rows_right) (vs:=[.rinst 4 0,v]) rfl (by kernel_rfl) (evs_2 (by kernel_rfl) hx) (call_con (g:=gIf RightArgs) (d':=98) rfl rfl (gIf_of ⟨v,css,rfl,R,e⟩))))) rfl
theorem law_s3 (xs:AV) (a b:Int):∃ mm∈[1,2],∃ a' b':Int,(oL 55).ex (lwF xs []) (.asg (.var 59 839004839008) (.bin .Add (.const (.int 1) 839011839012) (.call (.glob 245 839015839025) [(.var 242 839026839030),(.const (.int 2) 839032839033)] 839015839034) 839011839034) 839004839034) [siO a b]=some (.next,lwF xs [(59,iV mm)],[siO a' b']):=by
 obtain ⟨r,a',b',q,e⟩:=gr_call conLaw [] a b 119 rfl 41 (m:=2) (by decide)
 refine ⟨1+r,?_,a',b',ex_asg (v:=iV (1+r)) (ev_bin (n:=53) (H1:=[siO a b]) (a:=.dat (.int 1)) (b:=iV r) (by kernel_rfl) (ev_call (k:=k__law_grain) (vs:=[.loc 0,iV 2]) rfl (by kernel_rfl) (by kernel_rfl) e) (by kernel_rfl)) rfl⟩
 exact (show ∀ r∈[0,1],1+r∈[1,2] from cons_mem (by decide) (one_mem (by decide))) r (List.mem_range.mpr q)
theorem two_le (h:mm∈[1,2]):mm≤2:=two_e (P:=fun m=>m≤2) (by decide) (by decide) mm h
theorem law_row (hm:mm∈[1,2]) (k:AV) (a b:Int):∃ cs,(Lots cs∧cs.length=mm)∧∃ a' b':Int,(oL 53).ev ⟨lwSc1,[(242,.loc 0),(59,iV mm),(78,k)],120⟩ lwC [siO a b]=some (.dat (rowV cs),[siO a' b']):=by
 obtain ⟨vs,H',e1,⟨a',b',rfl⟩,e3,e4⟩:=compIt_eff (cd:=(oL 52).cd) (rest:=compGens itN (oL 52) lwX []) (t:=.var 122 840032840036) (fm:=⟨lwSc2,[(242,.loc 0)],120⟩) (f:=iV) (fun H=>∃ a b,H=[siO a b]) (fun v=>∃ l,l∈lotL∧v=.dat (lotV l)) rfl (l:=List.range mm) (H:=[siO a b]) ⟨a,b,rfl⟩ fun x hx H hH=>by
  obtain ⟨a,b,rfl⟩:=hH
  obtain ⟨l,hl,a',b',e⟩:=lot_call (gIf RightArgs) (gIf AskedArgs) [] a b
  exact ⟨⟨lwSc2,[(242,.loc 0),(122,iV x)],120⟩,rfl,.dat (lotV l),[siO a' b'],comp_e (ev_call (n:=51) (f:=.glob 265 840013840021) (xs:=[.var 242 840022840026]) (p:=840013840027) (k:=k__law_lot) (vs:=[.loc 0]) rfl (by kernel_rfl) (by kernel_rfl) e),⟨a',b',rfl⟩,l,hl,rfl⟩
 obtain ⟨cs,rfl,h2⟩:=ex_list e4
 rw [List.length_map,List.length_range] at e3
 refine ⟨cs,⟨h2,e3⟩,a',b',ev_comp (comp_v (by rfl) (lw_rng _ k mm hm) e1 ?_) (ds:=cs.map lotV) ?_⟩
 ·rw [List.length_map,e3];exact Nat.le_trans (two_le hm) (by decide)
 ·rw [← datL_mapF];exact allDat_datL _
theorem law_s4 (xs:AV) (hm:mm∈[1,2]) (a b:Int):∃ css:List (List (List Nat)),(css.length=3∨css.length=4∨css.length=5)∧(∀ c∈css,Lots c∧c.length=mm)∧∃ a' b':Int,(oL 55).ex (lwF xs [(59,iV mm)]) (.asg (.var 58 840004840008) (.mk (.comp lwC [(.gen (.var 78 840057840060) (.call (.glob 113 840064840069) [(.bin .Add (.const (.int 3) 840070840071) (.call (.glob 245 840074840084) [(.var 242 840085840089),(.const (.int 3) 840091840092)] 840074840093) 840070840093)] 840064840094) [])] lwSc1 840011840095)) 840004840095) [siO a b]=some (.next,lwF xs [(59,iV mm),(58,.loc 1)],[siO a' b',.list (datL (css.map rowV))]):=by
 obtain ⟨k,a1,b1,hk,e⟩:=gr_call conLaw [] a b 119 rfl 40 (m:=3) (by decide)
 obtain ⟨vs,H',e1,⟨a',b',rfl⟩,e3,e4⟩:=compIt_eff (cd:=(oL 53).cd) (rest:=compGens itN (oL 53) lwC []) (t:=.var 78 840057840060) (fm:=⟨lwSc1,[(242,.loc 0),(59,iV mm)],120⟩) (f:=iV) (fun H=>∃ a b,H=[siO a b]) (fun v=>∃ cs,(Lots cs∧cs.length=mm)∧v=.dat (rowV cs)) rfl (l:=List.range (3+k)) (H:=[siO a1 b1]) ⟨a1,b1,rfl⟩ fun x hx H hH=>by
  obtain ⟨a,b,rfl⟩:=hH
  obtain ⟨cs,h1,a',b',e⟩:=law_row hm (iV x) a b
  exact ⟨⟨lwSc1,[(242,.loc 0),(59,iV mm),(78,iV x)],120⟩,rfl,.dat (rowV cs),[siO a' b'],comp_e e,⟨a',b',rfl⟩,cs,h1,rfl⟩
 obtain ⟨css,rfl,h2⟩:=ex_list e4
 rw [List.length_map,List.length_range] at e3
 have hi:items itN (oL 53) (lwF xs [(59,iV mm)]) (.var 78 840057840060) (.call (.glob 113 840064840069) [(.bin .Add (.const (.int 3) 840070840071) (.call (.glob 245 840074840084) [(.var 242 840085840089),(.const (.int 3) 840091840092)] 840074840093) 840070840093)] 840064840094) [siO a b]=some ((List.range (3+k)).map iV,[siO a1 b1]) :=
  items_range rfl (evs_1 (ev_bin (n:=52) (H1:=[siO a b]) (a:=.dat (.int 3)) (b:=iV k) (by kernel_rfl) (ev_call (k:=k__law_grain) (vs:=[.loc 0,iV 3]) rfl (by kernel_rfl) (by kernel_rfl) e) (by kernel_rfl))) (Nat.le_trans (Nat.add_le_add_left (Nat.le_of_lt hk) 3) (by decide))
 have hl:((css.map fun c=>AV.dat (rowV c)))=datL (css.map rowV):=(datL_mapF _ _).symm
 rw [hl] at e1
 refine ⟨css,?_,h2,a',b',ex_asg (ev_compM (comp_v (by rfl) hi e1 ?_)) rfl⟩
 ·rw [e3]
  exact (show ∀ k∈[0,1,2],3+k=3∨3+k=4∨3+k=5 from cons_mem (by decide) (cons_mem (by decide) (one_mem (by decide)))) k (List.mem_range.mpr hk)
 ·rw [datL_len,List.length_map,e3]
  exact Nat.le_trans (Nat.add_le_add_left (Nat.le_of_lt hk) 3) (by decide)
end
end
section
noncomputable abbrev lwL (mm:Nat) (r:List (Nat×AV)):List (Nat×AV):=(59,iV mm)::(58,.loc 1)::r
noncomputable def rwO (css:List (List (List Nat))):AO:=.list (datL (css.map rowV))
noncomputable def lwSc3:Sc:=[(0,.local),(34,.local),(245,.globalImplicit),(242,.free)]
noncomputable def lwB:List MS:=bodyS (mS b_law 6)
noncomputable def lwQ (l:List Nat):MX:=pth (itS (mS lwB 0)) l
noncomputable def lwA:MX:=.comp (.lst [.sub (lwQ [0,0,0]) (lwQ [0,0,1]) 846018846075] 846017846076) [(.gen (.var 34 846081846085) (lwQ [1,1]) [])] lwSc3 846016846101
noncomputable def askN:List Nat:=[0,2,8,9]
noncomputable def askD4:DV:=lotV askN
section
variable {mm:Nat} {css:List (List (List Nat))}
theorem lw_rng3 (xs:AV) (ys:List (Nat×AV)) (H:Hp):∀ mm∈[1,2],items itN (oL 52) (lwF xs ((59,iV mm)::ys)) (.var 34 846081846085) (lwQ [1,1]) H=some ((List.range mm).map iV,H):=two_e (by kernel_rfl) (by kernel_rfl)
theorem lw_ask (H:Hp):(List.range 4).map (fun x=>subV base1 H (.dat askD4) (iV x))=mapB (fun x=>some (sX (askN.getD x 0))) (List.range 4):=by kernel_rfl
theorem law_s5 (xs:AV) (hm:mm∈[1,2]) (a b:Int) (hn:css.length=3∨css.length=4∨css.length=5) (h:∀ c∈css,Lots c∧c.length=mm):∃ css',RowsX mm css'∧∃ a' b':Int,(oL 55).ex (lwF xs (lwL mm [])) (.ifs (.cmp .Eq (.call (.glob 245 841007841017) [(.var 242 841018841022),(.const (.int 3) 841024841025)] 841007841026) (.const (.int 0) 841030841031) 841007841031) [(.asg (.sub (.var 58 842008842012) (.const (.int 0) 842013842014) 842008842015) (.bin .Add (.sub (.var 58 842018842022) (.const (.int 0) 842023842024) 842018842025) (.lst [(.lst [(.const (.str 170) 842030842035)] 842029842036)] 842028842037) 842018842037) 842008842037)] [] 841004842037) [siO a b,rwO css]=some (.next,lwF xs (lwL mm []),[siO a' b',rwO css']):=by
 obtain ⟨r,a1,b1,q,e⟩:=gr_call conLaw [rwO css] a b 119 rfl 41 (m:=3) (by decide)
 have hc:(oL 54).cd (lwF xs (lwL mm [])) (.cmp .Eq (.call (.glob 245 841007841017) [(.var 242 841018841022),(.const (.int 3) 841024841025)] 841007841026) (.const (.int 0) 841030841031) 841007841031) [siO a b,rwO css]=some ((r:Int)==0,[siO a1 b1,rwO css]) :=
  cd_cmp (n:=53) (a:=iV r) (b:=.dat (.int 0)) (ev_call (n:=52) (k:=k__law_grain) (vs:=[.loc 0,iV 3]) rfl (by kernel_rfl) (by kernel_rfl) e) (by kernel_rfl) rfl
 cases z:(r:Int)==0 with
 | false =>
  rw [z] at hc
  exact ⟨css,rowsX_of hm hn h,a1,b1,ex_ifs hc rfl⟩
 | true =>
  rw [z] at hc
  cases css with
  | nil=>exact absurd hn (by decide)
  | cons c0 r0 =>
   have hl:=(h c0 (List.mem_cons_self ..)).2
   refine ⟨(c0++[[7]])::r0,rowsX_put hm hn h,a1,b1,ex_ifs hc (exs_n (ex_sub (n:=53) (H1:=[siO a1 b1,rwO (c0::r0)]) (j:=1) (k:=0) (v:=.dat (rowV (c0++[[7]]))) (l:=datL ((c0::r0).map rowV)) (ev_binL (n:=52) (H1:=[siO a1 b1,rwO (c0::r0)]) (a:=.dat (rowV c0)) (b:=.dat (.lst [lotV [7]])) (x:=datL (c0.map lotV)++datL [lotV [7]]) (by kernel_rfl) (by kernel_rfl) ?_ ?_) (by kernel_rfl) (by kernel_rfl) rfl (Nat.succ_pos _) ?_) rfl)⟩
   ·exact gb_u (some (Res.newl (datL (c0.map lotV)++datL [lotV [7]]))) (Nat.ble_eq_true_of_le (by rw [datL_len,List.length_map,hl];exact Nat.le_trans (Nat.succ_le_succ (two_le hm)) (by decide))) rfl rfl
   ·rw [← datL_app,show c0.map lotV++[lotV [7]]=(c0++[[7]]).map lotV by rw [List.map_append];rfl];exact allDat_datL _
   ·rw [datL_len,List.length_map];rcases hn with e | e | e <;> (rw [e];decide)
theorem ask_one:∀ x∈List.range 4,[askN.getD x 0]∈lotL:=by decide +kernel
theorem law_ask (xs:AV) (hm:mm∈[1,2]) (T:Hp) {ys:List (Nat×AV)} (hfr:freeVars lwSc3 (lwF xs ((59,iV mm)::ys)).vars=[(242,.loc 0)]) (a b:Int):∃ as,(Lots as∧as.length=mm)∧∃ a' b':Int,(oL 53).ev (lwF xs ((59,iV mm)::ys)) lwA (siO a b::T)=some (.dat (rowV as),siO a' b'::T):=by
 obtain ⟨vs,H',e1,⟨a',b',rfl⟩,e3,e4⟩:=compIt_eff (cd:=(oL 52).cd) (rest:=compGens itN (oL 52) (.lst [.sub (lwQ [0,0,0]) (lwQ [0,0,1]) 846018846075] 846017846076) []) (t:=.var 34 846081846085) (fm:=⟨lwSc3,[(242,.loc 0)],120⟩) (f:=iV) (fun H=>∃ a b,H=siO a b::T) (fun v=>∃ l,l∈lotL∧v=.dat (lotV l)) rfl (l:=List.range mm) (H:=siO a b::T) ⟨a,b,rfl⟩ fun x hx H hH=>by
  obtain ⟨a,b,rfl⟩:=hH
  obtain ⟨k,a1,b1,q,e⟩:=gr_call conLaw T a b 119 rfl 38 (m:=4) (by decide)
  have hk:=List.mem_range.mpr q
  exact ⟨⟨lwSc3,[(242,.loc 0),(34,iV x)],120⟩,rfl,.dat (lotV [askN.getD k 0]),siO a1 b1::T,comp_e (ev_lst1 (n:=51) (d:=sN (askN.getD k 0)) (ev_sub (n:=50) (a:=.dat askD4) (k:=iV k) (by kernel_rfl) (ev_call (n:=49) (f:=.glob 245 846055846065) (xs:=[(.var 242 846066846070),(.const (.int 4) 846072846073)]) (p:=846055846074) (k:=k__law_grain) (vs:=[.loc 0,iV 4]) rfl (by kernel_rfl) (by kernel_rfl) e) (mem_at (lw_ask _) hk))),⟨a1,b1,rfl⟩,_,ask_one k hk,rfl⟩
 obtain ⟨as,rfl,h2⟩:=ex_list e4
 rw [List.length_map,List.length_range] at e3
 refine ⟨as,⟨h2,e3⟩,a',b',ev_comp (comp_v (by rfl) (lw_rng3 xs ys _ mm hm) (out:=as.map fun l=>.dat (lotV l)) (H2:=siO a' b'::T) (by rw [hfr];exact e1) ?_) (ds:=as.map lotV) ?_⟩
 ·rw [List.length_map,e3];exact Nat.le_trans (two_le hm) (by decide)
 ·rw [← datL_mapF];exact allDat_datL _
theorem law_body (xs:AV) (hm:mm∈[1,2]) (R:RowsX mm css) (t:AV) {r:List (Nat×AV)} (hr:r=[]∨∃ y,r=[(158,y)]) (a b:Int):∃ y a' b',exs (oL 54).ex (lwF xs (lwL mm ((122,t)::r))) lwB [siO a b,rwO css]=some (.next,lwF xs (lwL mm [(122,t),(158,y)]),[siO a' b',rwO css]):=by
 obtain ⟨as,⟨h1,h2⟩,a',b',e⟩:=law_ask xs hm [rwO css] (ys:=(58,.loc 1)::(122,t)::r) (by rcases hr with rfl | ⟨y,rfl⟩ <;> rfl) a b
 refine ⟨.dat (rowV as),a',b',?_⟩
 have s1:(oL 54).ex (lwF xs (lwL mm ((122,t)::r))) (.asg (.var 158 846008846013) lwA 846008846101) [siO a b,rwO css]=some (.next,lwF xs (lwL mm [(122,t),(158,.dat (rowV as))]),[siO a' b',rwO css]):=by
  refine (ex_asg e rfl).trans ?_
  rcases hr with rfl | ⟨y,rfl⟩ <;> rfl
 show exs (oL 54).ex _ [.asg (.var 158 846008846013) lwA 846008846101,.ifs (.not (.call (.glob 266 847015847031) [(.var 4 847032847037),(.var 58 847039847043),(.var 158 847045847050)] 847015847051) 847011847051) _ [] _] _=_
 exact exs_n s1 (exs_n (ex_ifs (cd_not (cd_call (t:=true) (ev_call (k:=k__law_asked_right) (vs:=[.rinst 4 0,.loc 1,.dat (rowV as)]) rfl (by kernel_rfl) (by kernel_rfl) (call_con (g:=gIf AskedArgs) (d':=98) rfl rfl (gIf_of ⟨.loc 1,css,as,rfl,R.rows,R.ask h1 h2,.inr ⟨1,rfl,rfl⟩⟩))))) rfl) rfl)
theorem law_rest (xs:AV) (a b:Int):∃ fm' H',exs (oL 55).ex (lwF xs []) b_law.tail [siO a b]=some (.ret (.dat (bD true)),fm',H'):=by
 obtain ⟨mm,hm,a1,b1,e3⟩:=law_s3 xs a b
 obtain ⟨css,hn,hc,a2,b2,e4⟩:=law_s4 xs hm a1 b1
 obtain ⟨css',R,a3,b3,e5⟩:=law_s5 xs hm a2 b2 hn hc
 obtain ⟨fm',H',⟨_,r,_,rfl⟩,i2⟩:=forIt_eff (exb:=fun fm H=>exs (oL 54).ex fm lwB H) (t:=.var 122 845008845012) (f:=iV) (fun fm H=>(∃ a b,H=[siO a b,rwO css'])∧∃ r,(r=[]∨∃ x y,r=[(122,x),(158,y)])∧fm=lwF xs (lwL mm r)) (l:=List.range 3) (fm:=lwF xs (lwL mm [])) (H:=[siO a3 b3,rwO css']) ⟨⟨a3,b3,rfl⟩,[],.inl rfl,rfl⟩ fun x hx fm H hi=>by
  obtain ⟨⟨a,b,rfl⟩,r,hf,rfl⟩:=hi
  rcases hf with rfl | ⟨x0,y0,rfl⟩
  ·obtain ⟨y,a',b',e⟩:=law_body xs hm R (iV x) (.inl rfl) a b
   exact ⟨lwF xs (lwL mm [(122,iV x)]),_,_,rfl,e,⟨a',b',rfl⟩,_,.inr ⟨_,_,rfl⟩,rfl⟩
  ·obtain ⟨y,a',b',e⟩:=law_body xs hm R (iV x) (.inr ⟨y0,rfl⟩) a b
   exact ⟨lwF xs (lwL mm [(122,iV x),(158,y0)]),_,_,rfl,e,⟨a',b',rfl⟩,_,.inr ⟨_,_,rfl⟩,rfl⟩
 have hi:items itN (oL 54) (lwF xs (lwL mm [])) (.var 122 845008845012) (itS (mS b_law 6)) [siO a3 b3,rwO css']=some ((List.range 3).map iV,[siO a3 b3,rwO css']):=by kernel_rfl
 refine ⟨_,H',exs_n (right_st (lw_lit xs _) css0_rows (.inl rfl)) (exs_n e3 (exs_n e4 (exs_n e5 (exs_n (right_st (v:=.loc 1) (by kernel_rfl) R.rows (.inr ⟨1,rfl,rfl⟩)) (exs_n (ex_for hi i2) (exs_r (ex_ret (by kernel_rfl))))))))⟩
end
end
section
noncomputable abbrev oZ (n:Nat):Ops:=@ops opq0.toOpqE itN (cfg [] noC) n
theorem ev_mkl {oq:OpqE} {I:ItN} {C:Cfg} {n:Nat} {fm:Fm} {H H1:Hp} {xs:List MX} {p:Nat} {vs:List AV} (h:evs (ops I C n).ev fm xs H=some (vs,H1)) (hl:le vs.length 10000=true):(ops I C (n+1)).ev fm (.mk (.lst xs p)) H=some (.loc H1.length,H1++[.list vs]):=ops_ev (ob2_u (putRes true) (ob2_u (fun vs H=>gb (le vs.length 10000) (some (Res.newl vs,H))) h rfl (gb_s hl rfl)) rfl rfl)
noncomputable def slV (l:List Int):AV:=.dat (.lst (l.map .int))
noncomputable def slF (l:List Int) (r:List (Nat×AV)):Fm:=⟨f__law_silo.sc,(237,slV l)::r,59⟩
noncomputable def slX (i:Nat) (l:List Nat):MX:=pth (itS (mS b__law_silo i)) l
noncomputable def hpI (c:Int):Int:=2 * (c.natAbs:Int)+cond (decide (c < 0)) 1 0
noncomputable abbrev slR (c p:Int):List (Nat×AV):=[(238,.dat (.int c)),(240,.dat (.int p))]
section
variable (l r:List Int) (i c p:Int) (H:Hp)
theorem sl_int:(oZ 997).ev (slF (i::r) []) (slX 0 [1]) H=some (.dat (.int i),H):=by kernel_rfl
theorem sl_zero:(oZ 997).ev (slF l []) (slX 0 [2]) H=some (.dat (.int 0),H):=by kernel_rfl
theorem sl_hp:(oZ 998).ev (slF l [(238,.dat (.int c))]) (slX 1 []) H=some (.dat (.int (hpI c)),H):=by kernel_rfl
theorem sl_cd:(oZ 996).cd (slF l (slR c p)) (slX 2 [0,0,0]) H=some (decide (2000000000000000000 < p),H):=by kernel_rfl
theorem sl_f:(oZ 996).ev (slF l (slR c p)) (slX 2 [0,0,1]) H=some (.dat (.int p),H):=by kernel_rfl
theorem sl_g:(oZ 996).ev (slF l (slR c p)) (slX 2 [0,0,2]) H=some (.dat (.int 0),H):=by kernel_rfl
theorem sl_h:(oZ 997).ev (slF l (slR c p)) (slX 2 [0,1]) H=some (.dat (.int (p % 2147483077+53)),H):=by kernel_rfl
theorem silo_call (hl:l.length≤1000):∃ a b:Int,(oZ 1000).call 60 (.fn k__law_silo) [slV l] H=some (.loc H.length,H++[siO a b]):=by
 have s1:∃ c,(oZ 999).ex (slF l []) (.asg (.var 238 767004767008) (.ite (.cmp .Gt (slX 0 [0,0]) (.const (.int 0) 767043767044) 767029767044) (slX 0 [1]) (slX 0 [2]) 767011767051) 767004767051) H=some (.next,slF l [(238,.dat (.int c))],H):=by
  have hm:(l.map DV.int).length=l.length:=List.length_map ..
  have hc:(oZ 997).cd (slF l []) (.cmp .Gt (slX 0 [0,0]) (.const (.int 0) 767043767044) 767029767044) H=some (decide ((0:Int) < (l.length:Int)),H) :=
   cd_cmp (n:=996) (a:=iV l.length) (b:=.dat (.int 0)) (ev_len (n:=995) (v:=slV l) (k:=l.length) rfl (by kernel_rfl) (by kernel_rfl) (hm ▸ lenV_lst (by rw [hm];exact Nat.le_trans hl (by decide)))) (by kernel_rfl) rfl
  cases l with
  | nil=>exact ⟨0,ex_asg (ev_ite hc (sl_zero [] H)) rfl⟩
  | cons i r =>
   rw [show decide ((0:Int) < ((i::r).length:Int))=true from decide_eq_true (Int.ofNat_succ_pos r.length)] at hc
   exact ⟨i,ex_asg (ev_ite hc (sl_int r i H)) rfl⟩
 obtain ⟨c,s1⟩:=s1
 have hv:∃ a:Int,(oZ 997).ev (slF l (slR c (hpI c))) (.ite (slX 2 [0,0,0]) (slX 2 [0,0,1]) (slX 2 [0,0,2]) 769012769046) H=some (.dat (.int a),H):=by
  have hc:=sl_cd l c (hpI c) H
  cases q:decide (2000000000000000000 < hpI c) with
  | true=>rw [q] at hc;exact ⟨_,ev_ite hc (sl_f l c (hpI c) H)⟩
  | false=>rw [q] at hc;exact ⟨_,ev_ite hc (sl_g l c (hpI c) H)⟩
 obtain ⟨a,hv⟩:=hv
 refine ⟨a,hpI c % 2147483077+53,call_fn (fi:=f__law_silo) (bs:=[(237,slV l)]) rfl rfl rfl rfl (fm1:=slF l (slR c (hpI c))) ?_⟩
 show exs (oZ 999).ex (slF l []) [.asg (.var 238 767004767008) (.ite (.cmp .Gt (slX 0 [0,0]) (.const (.int 0) 767043767044) 767029767044) (slX 0 [1]) (slX 0 [2]) 767011767051) 767004767051,.asg (.var 240 768004768008) (slX 1 []) 768004768040,.ret (.mk (.lst [.ite (slX 2 [0,0,0]) (slX 2 [0,0,1]) (slX 2 [0,0,2]) 769012769046,slX 2 [0,1]] 769011769071)) 769004769071] H=_
 exact exs_n s1 (exs_n (ex_asg (sl_hp l c H) rfl) (exs_r (ex_ret (ev_mkl (evs_2 hv (sl_h l c (hpI c) H)) rfl))))
end
noncomputable def lwZ (l:List Int) (r:List (Nat×AV)):Fm:=⟨f_law.sc,(237,slV l)::r,60⟩
theorem h1_len:H1.length=93:=by decide +kernel
theorem law_first (l:List Int) (hl:l.length≤1000):∃ a b:Int,(oZ 1003).ex (lwZ l []) (mS b_law 0) []=some (.next,lwZ l [(4,.inst 4 0),(242,.loc 93)],H1++[siO a b]):=by
 obtain ⟨a,b,e⟩:=silo_call l H1 hl
 rw [h1_len] at e
 refine ⟨a,b,?_⟩
 show (oZ 1003).ex (lwZ l []) (.asg (.tup [(.var 4 836004836009),(.var 242 836011836015)] 0 836004836015) (.tup [(.call (.glob 262 836019836030) [] 836019836032),(.call (.glob 263 836034836043) [(.var 237 836044836050)] 836034836051)] 0 836018836052) 836004836052) []=_
 exact ex_asgT (v:=.mix [.inst 4 0,.loc 93]) (ev_tup (vs:=[.inst 4 0,.loc 93]) (evs_2 (ev_call (n:=1000) (k:=k_start_kinds) (vs:=[]) rfl (by kernel_rfl) (by kernel_rfl) kinds_run) (ev_call (n:=1000) (k:=k__law_silo) (vs:=[slV l]) rfl (by kernel_rfl) (by kernel_rfl) e)) rfl) (by kernel_rfl) rfl
end
section
noncomputable def okF (v:AV):Bool:=AV.casesOn v (fun _=>true) (fun _=>false) (fun _ _=>false) (fun n=>Nat.blt n 93) (fun _ n=>Nat.blt n 93) (fun _=>false) (fun _=>false) (fun _=>false) (fun _=>false) false
noncomputable def okFO (o:AO):Bool:=AO.casesOn o (fun l=>l.all okF) (fun fs=>fs.all fun x=>okF x.2) (fun es=>es.all fun x=>okF x.2) false
theorem base_okF:base1.all okFO=true:=by decide +kernel
open Classical in
noncomputable def fzK (w:Wo):Kn:=⟨fun a=>if ∃ i,i < 93∧w.k.φ i=some a then w.h a else w.k.f a,fun n=>cond (Nat.beq n 0) (w.k.φ 93) none⟩
noncomputable abbrev fzW (w:Wo):Wo:=⟨fzK w,w.s⟩
noncomputable def fzB (w:Wo) (n:Nat):Option Addr:=cond (Nat.blt n 93) (w.k.φ n) none
section
variable {w0:World} {h:Heap} {K:Frag} {w:Wo} {a b:Int} {x:Value} {v:AV} {d:Addr} {n:Nat} {o:AO} {ob:Obj}
noncomputable abbrev g0 (w0:World) (h:Heap) (K:Frag):Gd:=gdOf w0 h K (fun _=>none) [] noC .opq
noncomputable abbrev g1 (w0:World) (h:Heap) (K:Frag) (w:Wo):Gd:=gC w0 h K (fzB w) conLaw .opq
theorem fzB_at (h:n < 93):fzB w n=w.k.φ n:=by unfold fzB;rw [show Nat.blt n 93=true from Nat.ble_eq_true_of_le h];rfl
theorem fz_in {i:Nat} (hi:i < 93) (e:w.k.φ i=some d):(fzK w).f d=w.h d:=if_pos ⟨i,hi,e⟩
theorem fz_f (R:Rep (g0 w0 h K) w (H1++[siO a b])) {ob:Obj} (e:w.k.f d=some ob):(fzK w).f d=some ob:=(if_neg fun ⟨i,_,q⟩=>nos ((R.dj q).symm.trans e)).trans e
theorem fz_fr (R:Rep (g0 w0 h K) w (H1++[siO a b])) (e:(fzK w).f d=some ob):w.h d=some ob:=by
 by_cases q:∃ i,i < 93∧w.k.φ i=some d
 ·exact (if_pos q).symm.trans e
 ·exact R.fr ((if_neg q).symm.trans e)
theorem fz_free (F:Free w d):Free (fzW w) d:=⟨(if_neg fun ⟨i,_,q⟩=>F.2 i q).trans F.1,fun n q=>by
 cases n with
 | zero=>exact F.2 93 q
 | succ n=>exact nos q⟩
theorem fz_dat (R:Rep (g0 w0 h K) w (H1++[siO a b])) {e:DV} (r:VR (g0 w0 h K) w.k (.dat e) x):VR (g1 w0 h K w) (fzK w) (.dat e) x:=DR.mono (fz_f R) _ _ r
theorem fz_rinst (R:Rep (g0 w0 h K) w (H1++[siO a b])) {c:Nat} (hn:n < 93) (r:VR (g0 w0 h K) w.k (.inst c n) x):VR (g1 w0 h K w) (fzK w) (.rinst c n) x:=by
 obtain ⟨y,dx,e,e1,e2⟩:=r
 exact ⟨y,dx,e,(fzB_at hn).trans e1,fz_f R e2⟩
theorem fz_loc (r:VR (g0 w0 h K) w.k (.loc 93) x):VR (g1 w0 h K w) (fzK w) (.loc 0) x:=r
theorem fz_V (R:Rep (g0 w0 h K) w (H1++[siO a b])) (v:AV) (q:okF v=true) (x:Value) (r:VR (g0 w0 h K) w.k (unV v) x):VR (g1 w0 h K w) ⟨(fzK w).f,fun _=>none⟩ v x:=by
 cases v with
 | dat e=>exact fz_dat R r
 | rloc n=>obtain ⟨y,e,r⟩:=r;exact ⟨y,(fzB_at (Nat.le_of_ble_eq_true q)).trans e,r⟩
 | rinst c n=>exact fz_rinst R (Nat.le_of_ble_eq_true q) r
 | _=>exact nft q
theorem fz_O (R:Rep (g0 w0 h K) w (H1++[siO a b])) (q:okFO o=true) (r:OO (g0 w0 h K) w.k (unO o) ob):OO (g1 w0 h K w) ⟨(fzK w).f,fun _=>none⟩ o ob:=by
 cases o with
 | list l=>obtain ⟨vs,n,e,r⟩:=r;exact ⟨vs,n,e,LR.mem (fun v m=>fz_V R v (List.all_eq_true.mp q v m)) ((LR.map unV).mp r)⟩
 | ns fs=>obtain ⟨vs,n,e,r⟩:=r;exact ⟨vs,n,e,LR.mem (fun v m _ z=>⟨z.1,fz_V R _ (List.all_eq_true.mp q v m) _ z.2⟩) ((LR.map _).mp r)⟩
 | dict kv=>obtain ⟨vs,e,r⟩:=r;exact ⟨vs,e,LR.mem (fun v m _ z=>⟨z.1,fz_V R _ (List.all_eq_true.mp q v m) _ z.2⟩) ((LR.map _).mp r)⟩
 | lost=>exact nft q
theorem last_at:(H1++[siO a b])[93]?=some (siO a b):=by rw [← h1_len];exact List.getElem?_concat_length
theorem fz_R (R:Rep (g0 w0 h K) w (H1++[siO a b])):Rep (g1 w0 h K w) (fzW w) [siO a b]:=by
 refine ⟨fun {n o} e=>?_,fun {n d} e=>?_,fun {n m d} e e'=>?_,fun {n d} e=>?_,fz_fr R,fun e=>fz_f R (R.G0 e),fun {n o} e=>?_⟩
 ·cases n with
  | zero =>
   rw [← Option.some.inj e]
   obtain ⟨d,ob,e1,e2,vs,n,e3,r⟩:=R.obj last_at
   refine ⟨d,ob,e1,e2,vs,n,e3,?_⟩
   obtain ⟨x,us,rfl,r1,y,us',rfl,r2,rfl⟩:=r
   exact .cons r1 (.one r2)
  | succ n=>exact nos e
 ·cases n with
  | zero=>exact Nat.one_pos
  | succ n=>exact nos e
 ·cases n with
  | zero=>cases m with
   | zero=>rfl
   | succ m=>exact nos e'
  | succ n=>exact nos e
 ·cases n with
  | zero=>exact (if_neg fun ⟨i,hi,q⟩=>Nat.ne_of_lt hi (R.inj q e)).trans (R.dj e)
  | succ n=>exact nos e
 ·have hn:n < 93:=by
   have:=(List.getElem?_eq_some_iff.mp e).1
   rw [← h1_len];unfold H1;rwa [List.length_map]
  obtain ⟨d,ob,e1,e2,r⟩:=R.obj (n:=n) (o:=unO o) (by rw [List.getElem?_append_left (by rw [h1_len];exact hn)];unfold H1;rw [List.getElem?_map,show base1[n]?=some o from e];rfl)
  exact ⟨d,ob,(fzB_at hn).trans e1,R.g0 (R.dj e1),(fz_in hn e1).trans e2,fz_O R (List.all_eq_true.mp base_okF o (List.mem_of_getElem? e)) r⟩
theorem fz_I {c:Cx} {fm fm':Fm} (I:In (g0 w0 h K) c fm w (H1++[siO a b])) (hs:fm'.sc=fm.sc) (hd:c.A.depth+4 * fm'.dep+10≤recursionLimit) (hu:c.A.units+16 * fm'.dep+200≤cLine)
  (hv:∀ {i v'},lookN fm'.vars i=some v'→∃ v,lookN fm.vars i=some v∧∀ y,VR (g0 w0 h K) w.k v y→VR (g1 w0 h K w) (fzK w) v' y):In (g1 w0 h K w) c fm' (fzW w) [siO a b]:=by
 obtain ⟨sc',vs',dep'⟩:=fm'
 have hs:sc'=fm.sc:=hs
 subst hs
 obtain ⟨m,ns,hm⟩:=I.loc
 refine ⟨I.hs,⟨I.st.kind,I.st.glob,I.st.bui,I.st.nlo,I.st.nce,I.st.ngl,I.st.own,I.st.inj,I.st.hd,hd,hu⟩,fz_R I.R,fz_free I.Lf,fun h1 h2=>let q:=I.cf h1 h2;⟨q.1,fz_free q.2.1,q.2.2⟩,⟨m,ns,fun h1 h2=>?_⟩,fun h1 h2=>?_⟩
 ·obtain ⟨v,e,r⟩:=hv h1
  obtain ⟨x,e1,e2⟩:=hm e h2
  exact ⟨x,e1,r x e2⟩
 ·obtain ⟨v,e,r⟩:=hv h1
  obtain ⟨d,o,x,e1,e2,e3,e4⟩:=I.cel e h2
  exact ⟨d,o,x,e1,e2,e3,r x e4⟩
end
end
theorem law_core {w0:World} {K:Frag} {l:List Int} (hl:l.length≤1000) {A:Around} {s:Shared} {R:Result→Shared→Prop} {rvs:List Value} (E:Wd s.heap K) (hh:A.handled=none) (hd:A.depth+4 * 122+10≤recursionLimit) (hu:A.units+16 * 122+200≤cLine)
  (rv:VRL (g0 w0 s.heap K) ⟨s.heap.get?,fun _=>none⟩ [slV l] rvs) (k':∀ s',s'={s with heap:=s'.heap,toks:=s'.toks}→(∀ b o,s.heap.get? b=some o→s'.heap.get? b=some o)→R (.ok (.ret (.bool true))) s') :
  codeAny (model pg w0) A (.call (.ref (fnA k_law)) ⟨rvs,[]⟩) R s:=by
 obtain ⟨p,lo,mg,mb,T⟩:=E.T
 have G:GdOK (g0 w0 s.heap K):=gdOK_of E.X E.k T
 have O0:OpsOK (g0 w0 s.heap K) (oZ 1003):=@ops_ok opq0.toOpqE (g0 w0 s.heap K) G (@TokOK.mk opq0.toOpqE _ opq0.nn opq0.dep opq0.eqk) (fnOK_all E.X E.k) (fun e1 _=>nos e1) (fun q=>nft q) 1003
 have F:FnOK (g0 w0 s.heap K) k_law f_law:=fnOK_all E.X E.k rfl
 have R0:Rep (g0 w0 s.heap K) ⟨⟨s.heap.get?,fun _=>none⟩,s⟩ []:=⟨fun e=>nos e,fun e=>nos e,fun e=>nos e,fun e=>nos e,id,id,fun e=>nos e⟩
 obtain ⟨ca,cb,e0⟩:=law_first l hl
 obtain ⟨fmR,HR,e1⟩:=law_rest (slV l) ca cb
 refine fun_start (dep:=60) (w:=⟨⟨s.heap.get?,fun _=>none⟩,s⟩) G F (bs:=[(237,slV l)]) rfl hh (by omega) (by omega) R0 rv fun {c w1 Q} q1 q2 a1 a2 a3 I X0 hown=>?_
 show Wp (g0 w0 s.heap K) c (execs (untrSs nC (mS b_law 0::b_law.tail)) c.env) Q w1
 refine wpAny_execs_cons (O0.ex e0 I fun w2 f X qf I1=>?_)
 rw [show f=.next from qf]
 have O1:OpsOK (g1 w0 s.heap K w2) (oL 55):=E.ops (w:=w0) (φb:=fzB w2) (conLaw_ok E) 55
 refine exs_ok (g:=g1 w0 s.heap K w2) (w:=fzW w2) O1.ex e1 (fz_I I1 rfl (by show c.A.depth+4 * 120+10≤_;omega) (by show c.A.units+16 * 120+200≤_;omega) fun {i v'} e=>?_) fun w3 f X3 qf I3=>?_
 ·replace e:lookN [(237,slV l),(4,.rinst 4 0),(242,.loc 0)] i=some v':=e
  show ∃ v,lookN [(237,slV l),(4,.inst 4 0),(242,.loc 93)] i=some v∧_
  rw [lookN_cons] at e ⊢
  by_cases z:237=i
  ·rw [if_pos z] at e ⊢
   exact ⟨_,rfl,fun y r=>Option.some.inj e ▸ fz_dat I1.R r⟩
  ·rw [if_neg z,lookN_cons] at e ⊢
   by_cases z:4=i
   ·rw [if_pos z] at e ⊢
    exact ⟨_,rfl,fun y r=>Option.some.inj e ▸ fz_rinst I1.R (by decide) r⟩
   ·rw [if_neg z,lookN_cons] at e ⊢
    by_cases z:242=i
    ·rw [if_pos z] at e ⊢
     exact ⟨_,rfl,fun y r=>Option.some.inj e ▸ fz_loc r⟩
    ·rw [if_neg z] at e
     exact nos e
 ·obtain ⟨y,rfl,r⟩:=qf
  rw [show y=.bool true from r]
  exact q2 _ _ (k' w3.s ((show w3.s={w2.s with heap:=w3.s.heap,toks:=w3.s.toks} from X3.sh).trans (by rw [X.sh,X0.sh])) fun b o e=>I3.R.fr (X3.u.f (fz_f I1.R (X.u.f (X0.u.f e)))))
theorem lawSome:(defOf vw rw0.row.name).isSome=true:=by kernel_rfl
noncomputable def lawP:DefRec×List (Str×Expr):=(defOf vw rw0.row.name).get lawSome
theorem lawDef:defOf vw rw0.row.name=some (lawP.1,lawP.2):=(Option.some_get lawSome).symm
theorem lawThe:rw0.row.prog.theDef rw0.row.name=some (lawP.1.params,lawP.1.body,lawP.1.scope):=by kernel_rfl
theorem lawKw:kwWritten? lawP.1.params.kwonlyargs lawP.1.params.kw_defaults=some lawP.2:=by kernel_rfl
noncomputable def YP2 (w:World) (h:Heap):Prop:=∃ K:Frag,K.In h∧KOK K∧lawAt K=true
theorem law_name:lawN=rw0.row.name:=by kernel_rfl
theorem top_of2 (left:LeftO pg vw loose xt0 (fun s=>obs2 s.heap) (fun _=>want2) 10934) (k1:rw0.row.wellSaid=true)
  (call:WalkO vw loose (XL vw []) YP2 rw0.row.toRowW lawP.1 lawP.2 fun f vs=>PySem.call f vs):rw0.row.Holds:=by
 refine PySem.W.holds_open (q:=vw) (loose:=loose) (Xt:=xt0) (XP:=XL vw []) (Yf:=fun s=>obs2 s.heap) (Ya:=fun _=>want2) (YP:=YP2) (N:=10934) left (fun w s e=>⟨frg s.heap,frg_in _,congrArg Prod.fst e,congrArg Prod.snd e⟩) (fun w h h' y k=>let ⟨K,a,b⟩:=y;⟨K,a.keeps k,b⟩) (fun s e=>xl_of s (Bool.and_eq_true_iff.mp e).1) XL.keeps lawDef lawThe lawKw (fun s e=>recFacts_of (Bool.and_eq_true_iff.mp e).2) (by rfl) k1 ?ok ⟨rfl,rfl,rfl,rfl,rfl,by decide +kernel⟩ ?hw call
 case ok=>decide +kernel
 case hw=>w_witness2
theorem law_is {K:Frag} {h:Heap} {mg:Str→Option Value} {a:Addr} (X:K.In h) (n:h.Ns mainGlobals mg) (e:lawAt K=true) (hm:mg lawP.1.name=some (.ref a)):a=883:=by
 have e2:=mg_of X n (beq_iff_eq.mp e)
 rw [law_name,← defOf_name lawDef,hm] at e2
 exact Value.ref.inj (Option.some.inj e2)
theorem law_pre {args:List WData} (h:rw0.row.toRowW.claim.pre args=true):∃ l:List Int,l.length≤63∧args=[.list (l.map .int)]:=by
 obtain ⟨h1,h2⟩:=pre_splitW (r:=rw0.row.toRowW) h
 obtain ⟨d,r,rfl,h3,h4⟩:=hasAllW_cons h1
 obtain rfl:=hasAllW_nil h4
 obtain ⟨xs,rfl,h5⟩:=hasW_list h3
 have hi:∀ xs:List WData,WShape.hasItems rw0.row.toRowW.records xs .int=true→∃ l:List Int,xs=l.map .int:=by
  intro xs
  induction xs with
  | nil=>exact fun _=>⟨[],rfl⟩
  | cons a r ih =>
   intro q
   unfold WShape.hasItems at q
   refine and_e q fun q1 q2=>?_
   obtain ⟨i,rfl⟩:=hasW_int q1
   obtain ⟨l,rfl⟩:=ih q2
   exact ⟨i::l,rfl⟩
 obtain ⟨l,rfl⟩:=hi xs h5
 refine ⟨l,?_,rfl⟩
 have h2:WTm.holds [] (.and (.not (.lt (.lit (.int 63)) (.len (.arg 0)))) (.lit (.bool true))) {args:=[.list (l.map .int)]}=true:=h2
 have hless:W.less? (WData.int 63) (WData.int ((l.map WData.int).length:Int))=some (decide ((63:Int) < ((l.map WData.int).length:Int))):=rfl
 have e:WTm.value [] (.and (.not (.lt (.lit (.int 63)) (.len (.arg 0)))) (.lit (.bool true))) {args:=[.list (l.map .int)]}=some (.bool (!decide ((63:Int) < ((l.map WData.int).length:Int)))):=by
  simp only [WTm.value,List.getElem?_cons_zero,hless,Option.map_some]
  cases decide ((63:Int) < ((l.map WData.int).length:Int)) <;> rfl
 unfold WTm.holds at h2
 rw [e] at h2
 cases q:decide ((63:Int) < ((l.map WData.int).length:Int)) with
 | true=>rw [q] at h2;exact absurd h2 (by decide)
 | false =>
  have:=of_decide_eq_false q
  rw [List.length_map] at this
  omega
theorem well_ints {P:Params} {h:Heap} {f:Addr→Option Obj} {l:List Int}:∀ {vs:List Value},WellAll P h vs (l.map .int)→DRL f (l.map .int) vs:=by
 induction l with
 | nil=>intro vs r;cases r;rfl
 | cons i l ih =>
  intro vs r
  cases r with | cons a r =>
  cases a with | int i t=>exact ⟨_,_,rfl,⟨t,rfl⟩,ih r⟩
theorem law_post (args ds:List WData):rw0.row.toRowW.claim.post args (.bool true) ds=true:=by
 have e:WTm.value [] (.eq .res (.lit (.bool true))) {args:=args,res:=some (.bool true),after:=ds}=some (.bool true):=by
  simp [WTm.value,W.same]
 show (WShape.has [] (.bool true) .bool&&WTm.holds [] (.eq .res (.lit (.bool true))) {args:=args,res:=some (.bool true),after:=ds})=true
 unfold WTm.holds
 rw [e]
 rfl
theorem law_walk:WalkO vw loose (XL vw []) YP2 rw0.row.toRowW lawP.1 lawP.2 fun f vs=>PySem.call f vs:=by
 intro w s₀ s₁ mg mb G y a o pm cd doc dV kV h1 h2 h3 h4 h5 hg args vals as hpre hlay hr hw has
 obtain ⟨K,X,k,e⟩:=y
 obtain rfl:=law_is X G.T.g e h5
 obtain ⟨l,hl,rfl⟩:=law_pre hpre
 have E:Wd s₁.heap K:=⟨X,k,vw,_,mg,mb,topRead_of G.T⟩
 cases hw with | cons hw1 hw2 =>
 cases hw2
 cases hw1 with | list ha hall =>
 refine wpAny_call ?_
 refine law_core (w0:=w) (Nat.le_trans hl (by decide)) (A:=callerA) (s:=s₁) E rfl (by decide) (by decide) (.one ⟨_,_,rfl,⟨_,ha⟩,?_⟩) fun s' es keep=>?_
 ·show DRL _ (subDL .opq (l.map .int)) _
  rw [subDL_map]
  exact well_ints hall
 ·rw [es]
  exact GoodW.toG ⟨.inl ⟨.bool true,.bool true,[],rfl,fun _=>rfl,.bool true,law_post _ _,fun _=>⟨List.nodup_nil,fun a q=>nomatch q⟩⟩,keep,rfl,hg⟩

end Mine
theorem PySem.Challenge.cw_pq0722_01_holds : PySem.Challenge.rw_pq0722_01.Holds :=
  PySem.W.holds_law Mine.said fun k1 => Mine.top_of2 (Mine.left' (fun s => Mine.obs2 s.heap) (fun _ => Mine.want2) Mine.bigO2) k1 Mine.law_walk
