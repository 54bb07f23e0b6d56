import PyProof.Rows.All
import Wide.All
import OpenK.AllK
import Wide.FinOn
import PySem.Challenge.RW_pb0500_01
set_option Elab.async false
set_option genSizeOf false
set_option genInjectivity false
set_option maxRecDepth 1000000
set_option linter.unusedVariables false
section
namespace Mine
open PySem
noncomputable abbrev Key:=Sum Int Str
inductive MV where
 | none
 | bool (b:Bool)
 | int (i:Int)
 | str (s:Str)
 | bytes (b:List UInt8)
 | tup (xs:List MV)
 | lst (xs:List MV)
 | dct (es:List (Key × MV))
 | inst (c:Addr) (fs:List MV)
 | ref (a:Nat)
noncomputable abbrev Dict:=List (Key × MV)
noncomputable def namesOf:Addr→List Str
 | 195=>["text"]
 | 217=>["octets","is_hex"]
 | 266=>["number","generation"]
 | 375=>["table","trailer"]
 | 468=>["name","reference","above","widgets","head","kind"]
 | 489=>["fields","nodes","seen"]
 | _=>[]
inductive MO where
 | list (xs:List MV)
 | dict (es:Dict)
inductive Md where
 | chg
 | lock
 | frz
structure Cell where
 md:Md
 o:MO
noncomputable abbrev Hp:=List Cell
noncomputable abbrev Po (α:Type):=α→Hp→Prop
noncomputable abbrev cL (xs:List MV):Cell:=⟨.chg, .list xs⟩
noncomputable abbrev cD (es:Dict):Cell:=⟨.chg, .dict es⟩
noncomputable def sizeMost:Nat:=100000
noncomputable def oM {α:Type}(o:Option α)(Q:α→Prop):Prop:=match o with
 | some a=>Q a
 | none=>False
noncomputable def asInt (v:MV)(Q:Int→Prop):Prop:=match v with
 | .int i=>Q i
 | _=>False
noncomputable def asStr (v:MV)(Q:Str→Prop):Prop:=match v with
 | .str i=>Q i
 | _=>False
noncomputable def asBool (v:MV)(Q:Bool→Prop):Prop:=match v with
 | .bool i=>Q i
 | _=>False
noncomputable def asBytes (v:MV)(Q:List UInt8→Prop):Prop:=match v with
 | .bytes i=>Q i
 | _=>False
noncomputable def asTup (v:MV)(Q:List MV→Prop):Prop:=match v with
 | .tup i=>Q i
 | _=>False
noncomputable def asLst (v:MV)(Q:List MV→Prop):Prop:=match v with
 | .lst i=>Q i
 | _=>False
noncomputable def asDct (v:MV)(Q:Dict→Prop):Prop:=match v with
 | .dct i=>Q i
 | _=>False
noncomputable def asRef (v:MV)(Q:Nat→Prop):Prop:=match v with
 | .ref a=>Q a
 | _=>False
noncomputable def asKey (v:MV)(Q:Key→Prop):Prop:=match v with
 | .int i=>Q (.inl i)
 | .str i=>Q (.inr i)
 | _=>False
noncomputable def oList (o:MO)(Q:List MV→Prop):Prop:=match o with
 | .list xs=>Q xs
 | _=>False
noncomputable def oDict (o:MO)(Q:Dict→Prop):Prop:=match o with
 | .dict xs=>Q xs
 | _=>False
noncomputable def deref (v:MV)(h:Hp)(Q:MO→Prop):Prop:=match v with
 | .lst xs=>Q (.list xs)
 | .dct es=>Q (.dict es)
 | .ref a=>∃c,h[a]?=some c∧Q c.o
 | _=>False
noncomputable def derL (v:MV)(h:Hp)(Q:List MV→Prop):Prop:=deref v h fun o=>oList o Q
noncomputable def derD (v:MV)(h:Hp)(Q:Dict→Prop):Prop:=deref v h fun o=>oDict o Q
noncomputable def cellL (v:MV)(h:Hp)(Q:Nat→List MV→Prop):Prop:=asRef v fun a=>∃xs,h[a]?=some (cL xs)∧Q a xs
noncomputable def cellD (v:MV)(h:Hp)(Q:Nat→Dict→Prop):Prop:=asRef v fun a=>∃es,h[a]?=some (cD es)∧Q a es
noncomputable def alloc (o:MO)(Q:Po MV)(h:Hp):Prop:=Q (.ref h.length) (h ++ [⟨.chg,o⟩])
noncomputable def noLock:Md→Prop
 | .lock=>False
 | _=>True
noncomputable def fzL (v:MV)(Q:Po MV)(h:Hp):Prop:=asRef v fun a=>∃m xs,h[a]?=some ⟨m, .list xs⟩∧noLock m∧Q (.lst xs) (h.set a ⟨.frz, .list xs⟩)
noncomputable def fzD (v:MV)(Q:Po MV)(h:Hp):Prop:=asRef v fun a=>∃m es,h[a]?=some ⟨m, .dict es⟩∧noLock m∧Q (.dct es) (h.set a ⟨.frz, .dict es⟩)
noncomputable def mkList (m:Bool)(xs:List MV)(Q:Po MV)(h:Hp):Prop:=xs.length≤sizeMost∧bif m then alloc (.list xs) Q h else Q (.lst xs) h
noncomputable def mkDict (m:Bool)(es:Dict)(Q:Po MV)(h:Hp):Prop:=es.length≤sizeMost∧bif m then alloc (.dict es) Q h else Q (.dct es) h
noncomputable def dlook {α:Type}(es:List (Key × α))(k:Key):Option α:=(es.find? fun e=>e.1=k).map (·.2)
noncomputable def dput {α:Type}(es:List (Key × α))(k:Key)(v:α):List (Key × α):=if es.any (fun e=>e.1=k) then es.map (fun e=>if e.1=k then (e.1,v) else e) else es ++ [(k,v)]
noncomputable def ddel {α:Type}(es:List (Key × α))(k:Key):List (Key × α):=es.filter fun e=> !decide (e.1=k)
noncomputable def dputs {α:Type}(es:List (Key × α)):List (Key × α)→List (Key × α)
 | []=>es
 | e::r=>dputs (dput es e.1 e.2) r
noncomputable def keyV:Key→MV
 | .inl i=> .int i
 | .inr s=> .str s
noncomputable def strB (a b:Str):Bool:=decide (a=b)
noncomputable def plainT:Nat→MV→Prop
 | 0,_=>False
 | n+1,v=>match v with
  | .int _=>True
  | .str _=>True
  | .bytes _=>True
  | .tup xs=>∀x∈xs,plainT n x
  | _=>False
noncomputable def eqI (x:Int)(b:MV)(Q:Bool→Prop):Prop:=match b with
 | .int y=>Q (x == y)
 | .str _=>Q false
 | _=>False
noncomputable def eqS (x:Str)(b:MV)(Q:Bool→Prop):Prop:=match b with
 | .str y=>Q (strB x y)
 | .int _=>Q false
 | .lst _=>Q false
 | _=>False
noncomputable def eqOk (a b:MV):Prop:=match a with
 | .int _=>(match b with
  | .int _=>True
  | .str _=>True
  | _=>False)
 | .str _=>(match b with
  | .str _=>True
  | .int _=>True
  | .lst _=>True
  | _=>False)
 | .lst _=>asStr b fun _=>True
 | _=>False
noncomputable def eqB (a b:MV):Bool:=match a with
 | .int x=>(match b with
  | .int y=>x == y
  | _=>false)
 | .str x=>(match b with
  | .str y=>strB x y
  | _=>false)
 | _=>false
noncomputable def allOk (x:MV):List MV→Prop
 | []=>True
 | y::ys=>eqOk y x∧allOk x ys
noncomputable def eqM (a b:MV)(Q:Bool→Prop):Prop:=match a with
 | .tup xs=>b= .tup xs∧plainT 50 (.tup xs)∧Q true
 | .dct es=>asDct b fun fs=>es≠ []∧fs= []∧Q false
 | .int x=>eqI x b Q
 | .str x=>eqS x b Q
 | .lst _=>asStr b fun _=>Q false
 | _=>False
noncomputable def intsP (xs:List MV)(Q:List Int→Prop):Prop:=∃l:List Int,xs=l.map .int∧Q l
noncomputable def strsP (xs:List MV)(Q:List Str→Prop):Prop:=∃l:List Str,xs=l.map .str∧Q l
noncomputable def neM (a b:MV)(Q:Bool→Prop):Prop:=match a with
 | .int x=>asInt b fun y=>Q (x != y)
 | .str x=>asStr b fun y=>Q (!strB x y)
 | .lst xs=>asLst b fun ys=>intsP xs fun k=>intsP ys fun l=>Q (!decide (k=l))
 | _=>False
noncomputable def isN (v:MV):Bool:=match v with
 | .none=>true
 | _=>false
noncomputable def inL (x:MV)(ys:List MV)(Q:Bool→Prop):Prop:=allOk x ys∧Q (ys.any fun y=>eqB y x)
noncomputable def inM (x c:MV)(h:Hp)(Q:Bool→Prop):Prop:=match c with
 | .tup ys=>inL x ys Q
 | c=>deref c h fun o=>match o with
  | .list ys=>inL x ys Q
  | .dict es=>asKey x fun k=>Q (dlook es k).isSome
inductive Cm where
 | eq | ne | lt | le | gt | is | isnt | in | notin
noncomputable def cmpM (op:Cm)(a b:MV)(h:Hp)(Q:Bool→Prop):Prop:=match op with
 | .eq=>eqM a b Q
 | .ne=>neM a b Q
 | .lt=>asInt a fun x=>asInt b fun y=>Q (decide (x < y))
 | .le=>asInt a fun x=>asInt b fun y=>Q (decide (x≤y))
 | .gt=>asInt a fun x=>asInt b fun y=>Q (decide (y < x))
 | .is=>b= .none∧Q (isN a)
 | .isnt=>b= .none∧Q (!isN a)
 | .in=>inM a b h Q
 | .notin=>inM a b h fun b=>Q (!b)
inductive Bo where
 | add | sub | fdiv | mod | pow | shr | and
noncomputable def addM (a b:MV)(Q:MV→Prop):Prop:=match a with
 | .int x=>asInt b fun y=>Q (.int (x+y))
 | .str x=>asStr b fun y=>x.length+y.length≤sizeMost∧Q (.str (x ++ y))
 | .tup x=>asTup b fun y=>x≠ []∧x.length+y.length≤sizeMost∧Q (.tup (x ++ y))
 | _=>False
noncomputable def arM (op:Bo)(x y:Int)(Q:MV→Prop):Prop:=match op with
 | .add=>False
 | .sub=>Q (.int (x - y))
 | .fdiv=>0 < y∧y < 1073741824∧Q (.int (x.fdiv y))
 | .mod=>0 < y∧Q (.int (x.fmod y))
 | .pow=>(x=2∨x=10)∧0≤y∧y≤100∧Q (.int (x ^ y.toNat))
 | .shr=>0≤x∧0≤y∧y≤100∧Q (.int (x.fdiv (2 ^ y.toNat)))
 | .and=>0≤x∧y=1∧Q (.int (x.fmod 2))
noncomputable def binM (op:Bo)(a b:MV)(Q:MV→Prop):Prop:=match op with
 | .add=>addM a b Q
 | op=>asInt a fun x=>asInt b fun y=>arM op x y Q
noncomputable def strLe (a b:Str):Bool:=decide (a.cps.toList≤b.cps.toList)
noncomputable def insBy {α:Type}(le:α→α→Bool)(x:α):List α→List α
 | []=>[x]
 | y::ys=>bif le x y then x::y::ys else y::insBy le x ys
noncomputable def sortBy {α:Type}(le:α→α→Bool):List α→List α
 | []=>[]
 | x::xs=>insBy le x (sortBy le xs)
noncomputable def intLe (a b:Int):Bool:=decide (a≤b)
inductive Ty where
 | bool | int | str | lst | dct
 | cls (c:Addr)
noncomputable def Ty.at:Ty→Value
 | .bool=> .type "bool"
 | .int=> .type "int"
 | .str=> .type "str"
 | .lst=> .type "list"
 | .dct=> .type "dict"
 | .cls c=> .ref c
noncomputable def Ty.isB:Ty→Bool
 | .bool=>true
 | .int=>true
 | _=>false
noncomputable def Ty.isI:Ty→Bool
 | .int=>true
 | _=>false
noncomputable def Ty.isS:Ty→Bool
 | .str=>true
 | _=>false
noncomputable def Ty.isL:Ty→Bool
 | .lst=>true
 | _=>false
noncomputable def Ty.isD:Ty→Bool
 | .dct=>true
 | _=>false
noncomputable def Ty.isK (k:Addr):Ty→Bool
 | .cls d=>Nat.beq k d
 | _=>false
noncomputable def tyO (T:Ty)(o:MO):Bool:=match o with
 | .list _=>T.isL
 | .dict _=>T.isD
noncomputable def isInst (T:Ty)(v:MV)(h:Hp)(Q:Bool→Prop):Prop:=match v with
 | .none=>Q false
 | .bool _=>Q T.isB
 | .int _=>Q T.isI
 | .str _=>Q T.isS
 | .bytes _=>Q false
 | .tup _=>Q false
 | .inst c _=>Q (T.isK c)
 | v=>deref v h fun o=>Q (tyO T o)
noncomputable def IdxAt (l:List Str)(x:Str)(n:Nat):Prop:=l[n]?=some x∧∀i y,i < n→l[i]?=some y→y≠x
noncomputable def joinS (l:List Str):Str:=⟨(l.flatMap fun s=>s.cps.toList).toArray⟩
noncomputable def sortM (m:Bool)(xs:List MV)(Q:Po MV)(h:Hp):Prop:=
 (intsP xs fun l=>l.length < 64∧mkList m ((sortBy intLe l).map .int) Q h)∨strsP xs fun l=>l.length < 64∧mkList m ((sortBy strLe l).map .str) Q h
noncomputable def keysV (es:Dict):List MV:=es.map fun e=>keyV e.1
noncomputable def keyed (e:Key × MV):MV:= .tup [keyV e.1,e.2]
noncomputable def octV (b:UInt8):MV:= .int b.toNat
noncomputable def chrV (c:Nat):MV:= .str ⟨#[c]⟩
inductive Pr where
 | len | abs | sorted | sum | ord | chr | append | pop | pop0 | extend | index | get | get2 | dpop | update | join | starts | tuple | bytes | list | dict
noncomputable def p1 (m hd:Bool)(p:Pr)(v:MV)(Q:Po MV)(h:Hp):Prop:=match p with
 | .len=>(match v with
  | .str s=>s.length≤sizeMost∧Q (.int s.length) h
  | v=>deref v h fun o=>match o with
   | .list xs=>xs.length≤sizeMost∧Q (.int xs.length) h
   | .dict es=>es.length≤sizeMost∧Q (.int es.length) h)
 | .abs=>asInt v fun i=>Q (.int (if i < 0 then -i else i)) h
 | .sorted=>deref v h fun o=>match o with
  | .list xs=>sortM m xs Q h
  | .dict es=>sortM m (keysV es) Q h
 | .sum=>hd=false∧derL v h fun xs=>intsP xs fun l=>l.length≤100∧(∀i∈l,0≤i∧i≤1073741824)∧Q (.int l.sum) h
 | .ord=>hd=false∧asStr v fun s=>∃c,s= ⟨#[c]⟩∧Q (.int c) h
 | .chr=>hd=false∧asInt v fun i=>0≤i∧i < 256∧Q (chrV i.toNat) h
 | .pop=>hd=false∧cellL v h fun a xs=>xs.length≤sizeMost∧∃ys x,xs=ys ++ [x]∧Q x (h.set a (cL ys))
 | .tuple=>derL v h fun xs=>xs.length≤sizeMost∧Q (.tup xs) h
 | .bytes=>(match v with
  | .bytes b=>Q (.bytes b) h
  | v=>hd=false∧derL v h fun xs=>∃l,xs=l.map octV∧l.length≤sizeMost∧Q (.bytes l) h)
 | .list=>hd=false∧deref v h fun o=>match o with
  | .list xs=>mkList m xs Q h
  | .dict es=>mkList m (keysV es) Q h
 | .dict=>hd=false∧deref v h fun o=>match o with
  | .dict es=>mkDict m es Q h
  | .list xs=>∃es:Dict,xs=es.map keyed∧es.length≤sizeMost∧mkDict m (dputs [] es) Q h
 | _=>False
noncomputable def p2 (hd:Bool)(p:Pr)(v x:MV)(Q:Po MV)(h:Hp):Prop:=match p with
 | .append=>cellL v h fun a xs=>xs.length < sizeMost∧Q .none (h.set a (cL (xs ++ [x])))
 | .pop0=>hd=false∧cellL v h fun a xs=>x= .int 0∧xs.length≤sizeMost∧∃y ys,xs=y::ys∧Q y (h.set a (cL ys))
 | .extend=>hd=false∧cellL v h fun a xs=>asLst x fun ys=>xs.length+ys.length≤sizeMost∧Q .none (h.set a (cL (xs ++ ys)))
 | .index=>hd=false∧derL v h fun xs=>asStr x fun s=>strsP xs fun l=>l.length≤sizeMost∧∃n,IdxAt l s n∧Q (.int n) h
 | .get=>derD v h fun es=>asKey x fun k=>Q ((dlook es k).getD .none) h
 | .update=>hd=false∧cellD v h fun a es=>asDct x fun fs=>es.length+fs.length≤sizeMost∧Q .none (h.set a (cD (dputs es fs)))
 | .join=>hd=false∧asStr v fun s=>s=""∧derL x h fun xs=>strsP xs fun l=>(l.map (·.length)).sum+l.length≤sizeMost∧Q (.str (joinS l)) h
 | .starts=>hd=false∧asBytes v fun b=>asBytes x fun p=>Q (.bool (p.isPrefixOf b)) h
 | _=>False
noncomputable def popD (o:Option MV)(A:MV→Prop)(B:Prop):Prop:=match o with
 | some y=>A y
 | none=>B
noncomputable def p3 (hd:Bool)(p:Pr)(v x z:MV)(Q:Po MV)(h:Hp):Prop:=match p with
 | .get2=>derD v h fun es=>asKey x fun k=>Q ((dlook es k).getD z) h
 | .dpop=>hd=false∧cellD v h fun a es=>es.length≤sizeMost∧asKey x fun k=>True∧popD (dlook es k) (fun y=>Q y (h.set a (cD (ddel es k)))) (Q z h)
 | _=>False
noncomputable def prim (m hd:Bool)(p:Pr)(vs:List MV)(Q:Po MV)(h:Hp):Prop:=match vs with
 | [v]=>p1 m hd p v Q h
 | [v,x]=>p2 hd p v x Q h
 | [v,x,z]=>p3 hd p v x z Q h
 | _=>False
noncomputable def atM (xs:List MV)(i:MV)(Q:MV→Prop):Prop:=asInt i fun k=>∃n:Nat,k=n∧n < 100000∧∃x,xs[n]?=some x∧Q x
noncomputable def itemM (v i:MV)(h:Hp)(Q:MV→Prop):Prop:=match v with
 | .tup xs=>atM xs i Q
 | v=>deref v h fun o=>match o with
  | .list xs=>atM xs i Q
  | .dict es=>asKey i fun k=>∃x,dlook es k=some x∧Q x
noncomputable def takeM (v n:MV)(h:Hp)(Q:MV→Prop):Prop:=derL v h fun xs=>asInt n fun k=>∃j:Nat,k=j∧xs.length≤sizeMost∧Q (.lst (xs.take j))
noncomputable def setM (v i x:MV)(h:Hp)(Q:Hp→Prop):Prop:=asRef v fun a=>∃o,h[a]?=some ⟨.chg,o⟩∧match o with
 | .list xs=>i= .int 0∧∃y ys,xs=y::ys∧Q (h.set a (cL (x::ys)))
 | .dict es=>asKey i fun k=>es.length < sizeMost∧Q (h.set a (cD (dput es k x)))
noncomputable def fdM (c:Addr)(i:Nat)(v:MV)(Q:MV→Prop):Prop:=match v with
 | .inst d fs=>bif Nat.beq d c then oM fs[i]? Q else False
 | _=>False
noncomputable def iterM (hd:Bool)(v:MV)(Q:List MV→Prop):Prop:=match v with
 | .lst xs=>xs.length≤sizeMost∧Q xs
 | .tup xs=>hd=false∧xs.length≤sizeMost∧Q xs
 | .dct es=>hd=false∧es.length≤sizeMost∧Q (keysV es)
 | .str s=>hd=false∧(∀c∈s.cps.toList,c < 128)∧s.cps.toList.length≤sizeMost∧Q (s.cps.toList.map chrV)
 | .bytes b=>hd=false∧b.length≤sizeMost∧Q (b.map octV)
 | _=>False
noncomputable def natV (i:Nat):MV:= .int i
noncomputable def rangeM (v:MV)(Q:List MV→Prop):Prop:=asInt v fun n=>n≤sizeMost∧ -1000000≤n∧Q ((List.range n.toNat).map natV)
noncomputable def pairV (p:MV × MV):MV:= .tup [p.1,p.2]
noncomputable def zipM (a b:MV)(Q:List MV→Prop):Prop:=asLst a fun xs=>asLst b fun ys=>xs.length≤sizeMost∧Q ((xs.zip ys).map pairV)
noncomputable abbrev Loc:=List (Option MV)
noncomputable def lat:Loc→Nat→Option MV
 | [],_=>none
 | a::_,0=>a
 | _::l,n+1=>lat l n
noncomputable def lput:Loc→Nat→MV→Loc
 | [],_,_=>[]
 | _::l,0,v=>some v::l
 | a::l,n+1,v=>a::lput l n v
structure Kx where
 cl:Bool→(Hp→Prop)→Addr→List MV→Po MV→Hp→Prop
 E:Hp→Prop
 hd:Bool
 ret:Po MV
 brk:Loc→Hp→Prop
noncomputable def noE:Hp→Prop:=fun _=>False
noncomputable def Kx.quiet (K:Kx):Kx:=⟨K.cl,noE,K.hd,K.ret,K.brk⟩
noncomputable def Kx.loop (K:Kx)(N:Loc→Hp→Prop):Kx:=⟨K.cl,K.E,K.hd,K.ret,N⟩
noncomputable abbrev Cd (α:Type):=Kx→Loc→Po α→Hp→Prop
noncomputable abbrev Cs:=Kx→(Loc→Hp→Prop)→Loc→Hp→Prop
noncomputable def lv (i:Nat):Cd MV:=fun _ l Q h=>oM (lat l i) fun v=>Q v h
noncomputable def cst (v:MV):Cd MV:=fun _ _ Q h=>Q v h
noncomputable def frL (e:Cd MV):Cd MV:=fun K l Q=>e K l fun v=>fzL v Q
noncomputable def frD (e:Cd MV):Cd MV:=fun K l Q=>e K l fun v=>fzD v Q
noncomputable def bin (op:Bo)(a b:Cd MV):Cd MV:=fun K l Q=>a K l fun x=>b K l fun y h=>binM op x y fun v=>Q v h
noncomputable def neg (a:Cd MV):Cd MV:=fun K l Q=>a K l fun x h=>asInt x fun i=>Q (.int (-i)) h
noncomputable def evs:List (Cd MV)→Cd (List MV)
 | []=>fun _ _ Q h=>Q [] h
 | e::es=>fun K l Q=>e K l fun v=>evs es K l fun vs=>Q (v::vs)
noncomputable def tupC (es:List (Cd MV)):Cd MV:=fun K l Q=>evs es K l fun vs=>Q (.tup vs)
noncomputable def lstC (m:Bool)(es:List (Cd MV)):Cd MV:=fun K l Q=>evs es K l fun vs=>mkList m vs Q
noncomputable def prs:List (Cd MV × Cd MV)→Cd Dict
 | []=>fun _ _ Q h=>Q [] h
 | e::es=>fun K l Q=>e.1 K l fun k=>e.2 K l fun v h=>asKey k fun k=>prs es K l (fun vs=>Q ((k,v) ::vs)) h
noncomputable def dctC (m:Bool)(es:List (Cd MV × Cd MV)):Cd MV:=fun K l Q=>prs es K l fun es=>mkDict m (dputs [] es) Q
noncomputable def fd (c:Addr)(i:Nat)(e:Cd MV):Cd MV:=fun K l Q=>e K l fun v h=>fdM c i v fun x=>Q x h
noncomputable def itm (o i:Cd MV):Cd MV:=fun K l Q=>o K l fun v=>i K l fun k h=>itemM v k h fun x=>Q x h
noncomputable def tke (o n:Cd MV):Cd MV:=fun K l Q=>o K l fun v=>n K l fun k h=>takeM v k h fun x=>Q x h
noncomputable def isC (T:Ty)(e:Cd MV):Cd MV:=fun K l Q=>e K l fun v h=>isInst T v h fun b=>Q (.bool b) h
noncomputable def kall (f:Addr)(es:List (Cd MV)):Cd MV:=fun K l Q=>evs es K l fun vs=>K.cl K.hd K.E f vs Q
noncomputable def blt (m:Bool)(p:Pr)(es:List (Cd MV)):Cd MV:=fun K l Q=>evs es K l fun vs=>prim m K.hd p vs Q
noncomputable def mtd (c f:Addr)(o:Cd MV)(es:List (Cd MV)):Cd MV:=fun K l Q=>o K l fun v h=>match v with
 | .inst d _=>bif Nat.beq d c then evs es K l (fun vs=>K.cl K.hd K.E f (v::vs) Q) h else False
 | _=>False
inductive Knd where
 | str | bytes | list | dict
noncomputable def hasKnd (k:Knd)(v:MV)(h:Hp)(P:Prop):Prop:=match k with
 | .str=>asStr v fun _=>P
 | .bytes=>asBytes v fun _=>P
 | .list=>derL v h fun _=>P
 | .dict=>derD v h fun _=>P
noncomputable def mth (m:Bool)(k:Knd)(p:Pr)(o:Cd MV)(es:List (Cd MV)):Cd MV:=fun K l Q=>o K l fun v h=>hasKnd k v h (evs es K l (fun vs=>prim m K.hd p (v::vs) Q) h)
noncomputable def tv (e:Cd MV):Cd Bool:=fun K l Q=>e K l fun v h=>asBool v fun b=>Q b h
noncomputable def tNot (t:Cd Bool):Cd Bool:=fun K l Q=>t K l fun b=>Q (!b)
noncomputable def tAnd (t u:Cd Bool):Cd Bool:=fun K l Q=>t K l fun b=>bif b then u K l Q else Q false
noncomputable def tOr (t u:Cd Bool):Cd Bool:=fun K l Q=>t K l fun b=>bif b then Q true else u K l Q
noncomputable def tCmp (op:Cm)(a b:Cd MV):Cd Bool:=fun K l Q=>a K l fun x=>b K l fun y h=>cmpM op x y h fun r=>Q r h
noncomputable def tCmp2 (op:Cm)(a b:Cd MV)(op':Cm)(c:Cd MV):Cd Bool:=fun K l Q=>a K l fun x=>b K l fun y h=>cmpM op x y h fun r=>bif r then c K l (fun z h=>cmpM op' y z h fun r=>Q r h) h else Q false h
noncomputable def ofT (t:Cd Bool):Cd MV:=fun K l Q=>t K l fun b=>Q (.bool b)
noncomputable def tIf (t:Cd Bool)(a b:Cd MV):Cd MV:=fun K l Q=>t K l fun c=>bif c then a K l Q else b K l Q
inductive Tg where
 | one (i:Nat)
 | many (is:List Nat)
noncomputable def lputs:Loc→List Nat→List MV→(Loc→Prop)→Prop
 | l,[],[],Q=>Q l
 | l,i::is,v::vs,Q=>lputs (lput l i v) is vs Q
 | _,_,_,_=>False
noncomputable def put (hd:Bool)(t:Tg)(v:MV)(l:Loc)(Q:Loc→Prop):Prop:=match t with
 | .one i=>Q (lput l i v)
 | .many is=>hd=false∧asTup v fun vs=>lputs l is vs Q
noncomputable def iover (e:Cd MV):Cd (List MV):=fun K l Q=>e K l fun v h=>iterM K.hd v fun xs=>Q xs h
noncomputable def iran (e:Cd MV):Cd (List MV):=fun K l Q=>e K l fun v h=>K.hd=false∧rangeM v fun xs=>Q xs h
noncomputable def irev (e:Cd MV):Cd (List MV):=fun K l Q=>e K l fun v h=>K.hd=false∧asLst v fun xs=>xs.length≤sizeMost∧Q xs.reverse h
noncomputable def izip (a b:Cd MV):Cd (List MV):=fun K l Q=>a K l fun x=>b K l fun y h=>K.hd=false∧zipM x y fun xs=>Q xs h
noncomputable def eachM {τ:Type}(f:MV→Po (List τ)→Hp→Prop):List MV→Po (List τ)→Hp→Prop
 | [],Q=>Q []
 | x::xs,Q=>f x fun ys=>eachM f xs fun zs=>Q (ys ++ zs)
noncomputable def unbs (l:Loc):List Nat→Prop→Prop
 | [],P=>P
 | i::is,P=>match lat l i with
  | none=>unbs l is P
  | some _=>False
noncomputable def unb (l:Loc)(t:Tg)(P:Prop):Prop:=match t with
 | .one i=>unbs l [i] P
 | .many is=>unbs l is P
noncomputable def turn {τ:Type}(t:Tg)(c:Cd Bool)(inner:Cd (List τ))(K:Kx)(l:Loc)(v:MV)(Q:Po (List τ))(h:Hp):Prop:=unb l t (put K.hd t v l fun l'=>c K l' (fun b=>bif b then inner K l' Q else Q []) h)
noncomputable def yes:Cd Bool:=fun _ _ Q=>Q true
noncomputable def ione (e:Cd MV):Cd (List MV):=fun K l Q=>e K l fun v=>Q [v]
noncomputable def ipair (k e:Cd MV):Cd Dict:=fun K l Q=>k K l fun k=>e K l fun v h=>asKey k fun k=>Q [(k,v)] h
noncomputable def igen {τ:Type}(t:Tg)(it:Cd (List MV))(c:Cd Bool)(inner:Cd (List τ)):Cd (List τ):=fun K l Q=>it K l fun xs=>eachM (turn t c inner K l) xs Q
noncomputable def lim (it:Cd (List MV)):Cd (List MV):=fun K l Q=>it K l fun xs h=>xs.length≤4000∧Q xs h
noncomputable def hide (hs:List (Option Nat))(l:Loc):Loc:=hs.map fun o=>o.bind (lat l)
noncomputable def icomp {τ:Type}(hs:List (Option Nat))(t:Tg)(it:Cd (List MV))(c:Cd Bool)(inner:Cd (List τ)):Cd (List τ):=fun K l Q=>it K l fun xs=>eachM (turn t c inner K.quiet (hide hs l)) xs Q
noncomputable def lcp (m:Bool)(e:Cd (List MV)):Cd MV:=fun K l Q=>e K l fun ys=>mkList m ys Q
noncomputable def dcp (m:Bool)(e:Cd Dict):Cd MV:=fun K l Q=>e K l fun es h=>es.length≤sizeMost∧mkDict m (dputs [] es) Q h
noncomputable def exS (e:Cd MV):Cs:=fun K N l=>e K l fun _=>N l
noncomputable def asS (t:Tg)(e:Cd MV):Cs:=fun K N l=>e K l fun v h=>put K.hd t v l fun l'=>N l' h
noncomputable def ixS (o i e:Cd MV):Cs:=fun K N l=>e K l fun v=>o K l fun a=>i K l fun k h=>setM a k v h (N l)
noncomputable def ifS (t:Cd Bool)(a b:Cs):Cs:=fun K N l=>t K l fun c=>bif c then a K N l else b K N l
noncomputable def retS (e:Cd MV):Cs:=fun K _ l=>e K l K.ret
noncomputable def noS:Cs:=fun _ _ _ _=>False
noncomputable def brkS:Cs:=fun K _ l=>K.brk l
noncomputable def sq (a b:Cs):Cs:=fun K N=>a K (b K N)
noncomputable def skp:Cs:=fun _ N=>N
noncomputable def raiS (e:Cd MV):Cs:=fun K _ l h=>K.hd=false∧e K l (fun v h=>asStr v fun _=>K.E h) h
noncomputable def forL (f:MV→(Loc→Hp→Prop)→Loc→Hp→Prop):List MV→(Loc→Hp→Prop)→Loc→Hp→Prop
 | [],N=>N
 | x::xs,N=>f x (forL f xs N)
noncomputable def forS (t:Tg)(it:Cd (List MV))(b:Cs):Cs:=fun K N l=>it K l fun xs=>forL (fun v M l h=>put K.hd t v l fun l'=>b (K.loop N) M l' h) xs N l
noncomputable def unlock (a:Nat)(es:Dict)(N:Loc→Hp→Prop)(l:Loc)(h:Hp):Prop:=h[a]?=some ⟨.lock, .dict es⟩∧N l (h.set a (cD es))
noncomputable def forK (t:Tg)(d:Nat)(b:Cs):Cs:=fun K N l h=>K.hd=false∧oM (lat l d) fun v=>cellD v h fun a es=>es.length≤sizeMost∧forL (fun v M l h=>put K.hd t v l fun l'=>b ⟨K.cl,noE,K.hd,fun _ _=>False,fun _ _=>False⟩ M l' h) (keysV es) (unlock a es N) l (h.set a ⟨.lock, .dict es⟩)
noncomputable def whl (t:Kx→Loc→Po Bool→Hp→Prop)(b:Cs)(K:Kx)(N:Loc→Hp→Prop):Nat→Loc→Hp→Prop
 | 0,_,_=>False
 | n+1,l,h=>t K l (fun c=>bif c then b K (whl t b K N n) l else N l) h
noncomputable def whS (t:Cd Bool)(b:Cs):Cs:=fun K N=>whl t b ⟨K.cl,noE,K.hd,K.ret,N⟩ N 1000
noncomputable def uE (e:Cd MV):Cd Unit:=fun K l Q=>e K l fun _=>Q ()
noncomputable def uIf (t:Cd Bool)(a b:Cd Unit):Cd Unit:=fun K l Q=>t K l fun c=>bif c then a K l Q else b K l Q
noncomputable def tryS (b:Cd Unit)(r:Cd MV):Cs:=fun K N l=>b ⟨K.cl,fun h=>r ⟨K.cl,noE,true,K.ret,K.brk⟩ l K.ret h,K.hd,K.ret,K.brk⟩ l fun _=>N l
structure FC where
 np:Nat
 k:Nat
 body:Cs
structure CC where
 np:Nat
 dflts:List MV
 fs:List (Cd MV)
inductive En where
 | fn (f:FC)
 | cls (c:CC)
noncomputable def callN (T:Addr→Option En):Nat→Bool→(Hp→Prop)→Addr→List MV→Po MV→Hp→Prop
 | 0,_,_,_,_,_,_=>False
 | n+1,hd,E,f,vs,Q,h=>oM (T f) fun e=>match e with
  | .fn c=>vs.length=c.np∧c.body ⟨callN T n,E,hd,Q,fun _ _=>False⟩ (fun _=>Q .none) (vs.map some ++ List.replicate c.k none) h
  | .cls c=>vs.length≤c.np∧c.np≤vs.length+c.dflts.length∧evs c.fs ⟨callN T n,noE,hd,fun _ _=>False,fun _ _=>False⟩ (none::(vs ++ c.dflts.drop (vs.length+c.dflts.length - c.np)).map some) (fun fs=>Q (.inst f fs)) h
end Mine
end
section
namespace Mine
open PySem PySem.W PySem.Calls PyProof.Rows
noncomputable abbrev ZMap:=Addr→Option Obj
structure Mp where
 Z:ZMap
 ρ:List Addr
structure Sg where
 m:Mp
 H:Hp
 s:Shared
structure Wo where
 prog:Program
 w:World
 G:Heap
 K:Frag
 mg:Str→Option Value
 mb:Str→Option Value
section
variable {prog:Program}{w:World}{A:Around}{E:Value→Shared→Prop}{s:Shared}
theorem eqBool_int_str {a:Int}{t:Tok}{b:Str}{u:Tok}{Q:Bool→Shared→Prop}(h:Q false s):wpAny (model prog w) A (eqBool (.int a t) (.str b u)) Q E s:=by
 unfold eqBool
 refine wpAny_holding ?_
 rw [if_neg (by intro e;have:=eq_of_beq e;cases this)]
 exact wpAny_bind (EqMixed.eq_int_str (wpAny_truthy_bool h))
theorem eqBool_str_int {a:Str}{t:Tok}{b:Int}{u:Tok}{Q:Bool→Shared→Prop}(h:Q false s):wpAny (model prog w) A (eqBool (.str a t) (.int b u)) Q E s:=by
 unfold eqBool
 refine wpAny_holding ?_
 rw [if_neg (by intro e;have:=eq_of_beq e;cases this)]
 exact wpAny_bind (EqMixed.eq_str_int (wpAny_truthy_bool h))
end
noncomputable def keyIs:Key→Value→Bool
 | .inl i,v=>Value.isInt i v
 | .inr x,v=>Value.isStrOf x v
theorem keyIs_int {i:Int}{v:Value}(h:keyIs (.inl i) v=true):∃t,v= .int i t:=Value.isInt_shape h
theorem keyIs_str {i:Str}{v:Value}(h:keyIs (.inr i) v=true):∃t,v= .str i t:=Value.isStrOf_shape h
theorem is_int (i:Int)(t:Tok):keyIs (.inl i) (.int i t) =true:=by show Value.isInt i (.int i t) =true;simp [Value.isInt]
theorem is_str (i:Str)(t:Tok):keyIs (.inr i) (.str i t) =true:=by show Value.isStrOf i (.str i t) =true;simp [Value.isStrOf]
theorem keyIs_inj (v:Value):∀a b:Key,keyIs a v=true→keyIs b v=true→a=b
 | .inl i, .inl j,ha,hb=>by obtain ⟨t,rfl⟩:=keyIs_int ha;obtain ⟨u,e⟩:=keyIs_int hb;injection e with e;rw [e]
 | .inl i, .inr j,ha,hb=>by obtain ⟨t,rfl⟩:=keyIs_int ha;obtain ⟨u,e⟩:=keyIs_str hb;cases e
 | .inr i, .inl j,ha,hb=>by obtain ⟨t,rfl⟩:=keyIs_str ha;obtain ⟨u,e⟩:=keyIs_int hb;cases e
 | .inr i, .inr j,ha,hb=>by obtain ⟨t,rfl⟩:=keyIs_str ha;obtain ⟨u,e⟩:=keyIs_str hb;injection e with e;rw [e]
theorem inl_dec (i j:Int):decide ((Sum.inl i:Key) =Sum.inl j) = (i == j):=by by_cases q:i=j <;> simp [q]
theorem inr_dec (i j:Str):decide ((Sum.inr i:Key) =Sum.inr j) =decide (i=j):=by by_cases q:i=j <;> simp [q]
theorem keyIs_eq {prog:Program}{w:World}{A:Around}{E:Value→Shared→Prop}{s:Shared}{Q:Bool→Shared→Prop}:∀(a b:Key){u v:Value},keyIs a u=true→keyIs b v=true→Q (decide (a=b)) s→wpAny (model prog w) A (eqBool u v) Q E s
 | .inl i, .inl j,u,v,hu,hv,h=>by obtain ⟨t,rfl⟩:=keyIs_int hu;obtain ⟨t',rfl⟩:=keyIs_int hv;rw [inl_dec] at h;exact wpAny_eqBool_int h
 | .inl i, .inr j,u,v,hu,hv,h=>by obtain ⟨t,rfl⟩:=keyIs_int hu;obtain ⟨t',rfl⟩:=keyIs_str hv;exact eqBool_int_str (by simpa using h)
 | .inr i, .inl j,u,v,hu,hv,h=>by obtain ⟨t,rfl⟩:=keyIs_str hu;obtain ⟨t',rfl⟩:=keyIs_int hv;exact eqBool_str_int (by simpa using h)
 | .inr i, .inr j,u,v,hu,hv,h=>by obtain ⟨t,rfl⟩:=keyIs_str hu;obtain ⟨t',rfl⟩:=keyIs_str hv;rw [inr_dec] at h;exact wpAny_eqBool_str h
noncomputable def mixKind (prog:Program)(w:World):KeyKind prog w Key where
 is:=keyIs
 hash:=fun k=>match k with | .inl i=>hashInt i | .inr x=>hashStr w x
 inj:=fun v a b=>keyIs_inj v a b
 byValue:=fun k v h=>match k,h with
  | .inl i,h=>by obtain ⟨t,rfl⟩:=keyIs_int h;rfl
  | .inr i,h=>by obtain ⟨t,rfl⟩:=keyIs_str h;rfl
 pyHash:=fun {A E s k v Q} hv h=>match k,hv,h with
  | .inl i,hv,h=>by obtain ⟨t,rfl⟩:=keyIs_int hv;exact wpAny_pyHash_int h
  | .inr i,hv,h=>by obtain ⟨t,rfl⟩:=keyIs_str hv;exact wpAny_pyHash_str h
 eqBool:=fun {A E s a b u v Q} hu hv h=>keyIs_eq a b hu hv h
 «strs» :=fun k x t v h=>match k,h with
  | .inl i,h=>by obtain ⟨u,e⟩:=keyIs_int h;cases e
  | .inr i,h=>by obtain ⟨u,e⟩:=keyIs_str h;injection e with e;subst e;cases v <;> rfl
noncomputable abbrev KVs:=List (Key × Value)
noncomputable abbrev Wo.kd (c:Wo):KeyKind c.prog c.w Key:=mixKind c.prog c.w
noncomputable abbrev oTup (vs:List Value)(n:Nat):Obj:={cls:= .type "tuple",data:= .seq vs.toArray n}
noncomputable abbrev oLst (vs:List Value)(n:Nat):Obj:={cls:= .type "list",data:= .seq vs.toArray n}
inductive SeqR (T:String)(m:Mp)(P:List Value→Prop)(V:Value):Prop
 | mk (a:Addr)(vs:List Value)(n:Nat):V= .ref a→(a == sysModules) =false→m.Z a=some {cls:= .type T,data:= .seq vs.toArray n}→P vs→SeqR T m P V
inductive DctR (c:Wo)(m:Mp)(P:KVs→Prop)(V:Value):Prop
 | mk (a:Addr)(o:Obj)(kvs:KVs):V= .ref a→(a == sysModules) =false→m.Z a=some o→o.IsDictOf c.kd kvs→P kvs→DctR c m P V
noncomputable def ownC (k:Addr):Bool:=[195,217,266,375,468,489].contains k
inductive InsR (c:Wo)(m:Mp)(k:Addr)(P:KVs→Prop)(V:Value):Prop
 | mk (a d:Addr)(o:Obj)(kvs:KVs):V= .ref a→ownC k=true→m.Z a=some (instObj k d)→m.Z d=some o→o.IsDictOf c.kd kvs→P kvs→InsR c m k P V
inductive ConsR (α:Type)(w:Value→α)(p:Value→Prop)(P:List α→Prop)(l:List α):Prop
 | mk (v:Value)(r:List α):l=w v::r→p v→P r→ConsR α w p P l
inductive FldR (p:Value→Prop)(P:List Str→KVs→Prop)(ns:List Str)(kvs:KVs):Prop
 | mk (n:Str)(ns':List Str)(v:Value)(r:KVs):ns=n::ns'→kvs= (.inr n,v) ::r→p v→P ns' r→FldR p P ns kvs
mutual
noncomputable def VR (c:Wo)(m:Mp):MV→Value→Prop
 | .none,V=>V= .none
 | .bool b,V=>V= .bool b
 | .int i,V=>∃t,V= .int i t
 | .str x,V=>∃t,V= .str x t
 | .bytes b,V=>∃t,V= .bytes b.toArray t
 | .tup xs,V=>SeqR "tuple" m (VRs c m xs) V
 | .lst xs,V=>SeqR "list" m (VRs c m xs) V
 | .dct es,V=>DctR c m (PR c m es) V
 | .inst k fs,V=>InsR c m k (FsR c m fs (namesOf k)) V
 | .ref i,V=>∃a,V= .ref a∧m.ρ[i]?=some a
noncomputable def VRs (c:Wo)(m:Mp):List MV→List Value→Prop
 | [],vs=>vs= []
 | x::xs,vs=>ConsR Value id (VR c m x) (VRs c m xs) vs
noncomputable def PR (c:Wo)(m:Mp):Dict→KVs→Prop
 | [],kvs=>kvs= []
 | (k,x) ::es,kvs=>ConsR (Key × Value) (Prod.mk k) (VR c m x) (PR c m es) kvs
noncomputable def FsR (c:Wo)(m:Mp):List MV→List Str→KVs→Prop
 | [],ns,kvs=>ns= []∧kvs= []
 | x::xs,ns,kvs=>FldR (VR c m x) (FsR c m xs) ns kvs
end
structure Mp.le (m m':Mp):Prop where
 z:∀a o,m.Z a=some o→m'.Z a=some o
 r:m.ρ <+:m'.ρ
theorem Mp.le.refl (m:Mp):m.le m:=⟨fun _ _ e=>e,List.prefix_refl _⟩
theorem Mp.le.trans {m m' m'':Mp}(a:m.le m')(b:m'.le m''):m.le m'':=⟨fun x o e=>b.z x o (a.z x o e),a.r.trans b.r⟩
theorem pre_get {ρ ρ':List Addr}(h:ρ <+:ρ'){i:Nat}{a:Addr}(e:ρ[i]?=some a):ρ'[i]?=some a:=by
 obtain ⟨t,rfl⟩:=h
 exact (List.getElem?_append_left (List.getElem?_eq_some_iff.mp e).1).trans e
section
variable {c:Wo}{m m':Mp}
theorem VR.mono (h:m.le m')(x:MV):∀V,VR c m x V→VR c m' x V:=
 MV.rec (motive_1:=fun x=>∀V,VR c m x V→VR c m' x V) (motive_2:=fun xs=>(∀vs,VRs c m xs vs→VRs c m' xs vs)∧∀ns kvs,FsR c m xs ns kvs→FsR c m' xs ns kvs)
  (motive_3:=fun es=>∀kvs,PR c m es kvs→PR c m' es kvs) (motive_4:=fun e=>∀V,VR c m e.2 V→VR c m' e.2 V)
  (fun _ e=>e) (fun _ _ e=>e) (fun _ _ e=>e) (fun _ _ e=>e) (fun _ _ e=>e)
  (fun _ ih _ ⟨a,vs,n,e,q,z,r⟩=>⟨a,vs,n,e,q,h.z _ _ z,ih.1 vs r⟩) (fun _ ih _ ⟨a,vs,n,e,q,z,r⟩=>⟨a,vs,n,e,q,h.z _ _ z,ih.1 vs r⟩)
  (fun _ ih _ ⟨a,o,kvs,e,q,z,i,r⟩=>⟨a,o,kvs,e,q,h.z _ _ z,i,ih kvs r⟩) (fun _ _ ih _ ⟨a,d,o,kvs,e,w,z,y,i,r⟩=>⟨a,d,o,kvs,e,w,h.z _ _ z,h.z _ _ y,i,ih.2 _ kvs r⟩)
  (fun _ _ ⟨a,e,r⟩=>⟨a,e,pre_get h.r r⟩) ⟨fun _ e=>e,fun _ _ e=>e⟩
  (fun _ _ i1 i2=>⟨fun _ ⟨v,r,e,a,b⟩=>⟨v,r,e,i1 v a,i2.1 r b⟩,fun _ _ ⟨n,ns,v,r,e,e',a,b⟩=>⟨n,ns,v,r,e,e',i1 v a,i2.2 ns r b⟩⟩)
  (fun _ e=>e) (fun _ _ i1 i2 _ ⟨v,r,e,a,b⟩=>⟨v,r,e,i1 v a,i2 r b⟩) (fun _ _ ih=>ih) x
theorem VRs.mono (h:m.le m')(xs:List MV):∀vs,VRs c m xs vs→VRs c m' xs vs:=by
 induction xs with
 | nil=>exact fun _ e=>e
 | cons x xs ih=>exact fun _ ⟨v,r,e,a,b⟩=>⟨v,r,e,VR.mono h x v a,ih r b⟩
theorem PR.mono (h:m.le m')(es:Dict):∀kvs,PR c m es kvs→PR c m' es kvs:=by
 induction es with
 | nil=>exact fun _ e=>e
 | cons e es ih=>exact fun _ ⟨v,r,e',a,b⟩=>⟨v,r,e',VR.mono h e.2 v a,ih r b⟩
theorem VR.up {x:MV}{V:Value}(r:VR c m x V)(h:m.le m'):VR c m' x V:=VR.mono h x V r
theorem VRs.up {x:List MV}{V:List Value}(r:VRs c m x V)(h:m.le m'):VRs c m' x V:=VRs.mono h x V r
theorem PR.up {x:Dict}{V:KVs}(r:PR c m x V)(h:m.le m'):PR c m' x V:=PR.mono h x V r
theorem VRs.length {x:List MV}:∀ {v:List Value},VRs c m x v→x.length=v.length:=by
 induction x with
 | nil=>intro v h;cases h;rfl
 | cons x xs ih=>intro v ⟨w,r,e,_,b⟩;rw [e,List.length_cons,ih b];rfl
theorem VRs.append {x y:List MV}{u:List Value}(h:VRs c m y u):∀ {v:List Value},VRs c m x v→VRs c m (x ++ y) (v ++ u):=by
 induction x with
 | nil=>intro v e;cases e;exact h
 | cons x xs ih=>intro v ⟨w,r,e,a,b⟩;exact ⟨w,r ++ u,congrArg (· ++ u) e,a,ih b⟩
theorem VRs.one {a:MV}{v:Value}(h:VR c m a v):VRs c m [a] [v]:=⟨v,[],rfl,h,rfl⟩
theorem VRs.get {x:MV}{xs:List MV}:∀ {vs:List Value},VRs c m xs vs→∀ {i:Nat},xs[i]?=some x→∃v,vs[i]?=some v∧VR c m x v:=by
 induction xs with
 | nil=>intro _ _ i e;cases e
 | cons y ys ih=>
  intro vs ⟨w,r,e,a,b⟩ i e'
  subst e
  cases i with
  | zero=>exact ⟨w,rfl,Option.some.inj e'▸a⟩
  | succ i=>exact ih b e'
theorem VRs.take {xs:List MV}(n:Nat):∀ {vs:List Value},VRs c m xs vs→VRs c m (xs.take n) (vs.take n):=by
 induction n generalizing xs with
 | zero=>exact fun _=>rfl
 | succ n ih=>
  cases xs with
  | nil=>intro vs e;cases e;exact rfl
  | cons x xs=>intro vs ⟨w,r,e,a,b⟩;subst e;exact ⟨w,_,rfl,a,ih b⟩
theorem VRs.snoc {xs:List MV}{x:MV}:∀ {Vs:List Value},VRs c m (xs ++ [x]) Vs→∃vs v,Vs=vs ++ [v]∧VRs c m xs vs∧VR c m x v:=by
 induction xs with
 | nil=>intro _ ⟨w,_,e,a,e'⟩;exact ⟨[],w,e.trans (congrArg _ e'),rfl,a⟩
 | cons y ys ih=>intro _ ⟨w,r,e,a,b⟩;obtain ⟨vs,v,e',h1,h2⟩:=ih b;exact ⟨w::vs,v,e.trans (congrArg (w:: ·) e'),⟨w,vs,rfl,a,h1⟩,h2⟩
theorem VRs.reverse {xs:List MV}:∀ {vs:List Value},VRs c m xs vs→VRs c m xs.reverse vs.reverse:=by
 induction xs with
 | nil=>intro _ e;cases e;exact rfl
 | cons x xs ih=>intro _ ⟨w,r,e,a,b⟩;rw [e,List.reverse_cons,List.reverse_cons];exact (VRs.one a).append (ih b)
theorem PR.length {x:Dict}:∀ {v:KVs},PR c m x v→x.length=v.length:=by
 induction x with
 | nil=>intro v h;cases h;rfl
 | cons x xs ih=>intro v ⟨w,r,e,_,b⟩;rw [e,List.length_cons,ih b];rfl
theorem PR.keys {x:Dict}:∀ {v:KVs},PR c m x v→x.map (·.1) =v.map (·.1):=by
 induction x with
 | nil=>intro v h;cases h;rfl
 | cons x xs ih=>intro v ⟨w,r,e,_,b⟩;rw [e];exact congrArg (x.1:: ·) (ih b)
theorem PR.append {x y:Dict}{u:KVs}(h:PR c m y u):∀ {v:KVs},PR c m x v→PR c m (x ++ y) (v ++ u):=by
 induction x with
 | nil=>intro v e;cases e;exact h
 | cons x xs ih=>intro v ⟨w,r,e,a,b⟩;exact ⟨w,r ++ u,congrArg (· ++ u) e,a,ih b⟩
noncomputable def LR (c:Wo)(m:Mp)(o:Option MV)(p:Option Value):Prop:=match o with
 | none=>p=none
 | some x=>∃v,p=some v∧VR c m x v
theorem find_t {α β:Type} [DecidableEq α]{e:α × β}{k:α}{l:List (α × β)}(q:e.1=k):((e::l).find? fun e=>e.1=k).map (·.2) =some e.2:=by rw [List.find?_cons_of_pos (by simpa using q)];rfl
theorem find_f {α β:Type} [DecidableEq α]{e:α × β}{k:α}{l:List (α × β)}(q:¬ e.1=k):((e::l).find? fun e=>e.1=k).map (·.2) = (l.find? fun e=>e.1=k).map (·.2):=by rw [List.find?_cons_of_neg (by simpa using q)]
theorem PR.look {x:Dict}(k:Key):∀ {v:KVs},PR c m x v→LR c m (dlook x k) (valueAt v k):=by
 induction x with
 | nil=>intro v e;cases e;exact rfl
 | cons e xs ih=>
  intro v ⟨w,r,e',h,t⟩
  subst e'
  unfold dlook valueAt
  by_cases q:e.1=k
  ·rw [find_t q,find_t (e:=(e.1,w)) q];exact ⟨w,rfl,h⟩
  ·rw [find_f q,find_f (e:=(e.1,w)) q];exact ih t
theorem any_keys {α:Type}(l:List (Key × α))(k:Key):l.any (fun e=>e.1=k) = (l.map (·.1)).any (fun e=>decide (e=k)):=by rw [List.any_map];rfl
theorem PR.mapIf {x:Dict}(k:Key){a:MV}{b:Value}(hab:VR c m a b):∀ {v:KVs},PR c m x v→PR c m (x.map fun e=>if e.1=k then (e.1,a) else e) (v.map fun e=>if e.1=k then (e.1,b) else e):=by
 induction x with
 | nil=>intro v e;cases e;exact rfl
 | cons e xs ih=>
  intro v ⟨w,r,e',h,t⟩
  subst e'
  rw [List.map_cons,List.map_cons]
  by_cases q:e.1=k
  ·rw [if_pos q,if_pos q];exact ⟨b,_,rfl,hab,ih t⟩
  ·rw [if_neg q,if_neg (c:=(e.1,w).1=k) q];exact ⟨w,_,rfl,h,ih t⟩
theorem PR.put {x:Dict}{v:KVs}(h:PR c m x v)(k:Key){a:MV}{b:Value}(hab:VR c m a b):PR c m (dput x k a) (stored v k b):=by
 unfold dput stored
 rw [any_keys,any_keys,h.keys]
 split
 ·exact PR.mapIf k hab h
 ·exact PR.append (y:=[(k,a)]) ⟨b,[],rfl,hab,rfl⟩ h
theorem PR.puts {y:Dict}:∀ {x:Dict}{v u:KVs},PR c m x v→PR c m y u→PR c m (dputs x y) (merged v u):=by
 induction y with
 | nil=>intro x v u h e;cases e;exact h
 | cons e y ih=>intro x v u h ⟨w,r,e',a,b⟩;rw [e'];exact ih (v:=stored v e.1 w) (h.put e.1 a) b
theorem PR.del {x:Dict}(k:Key):∀ {v:KVs},PR c m x v→PR c m (ddel x k) (without v k):=by
 induction x with
 | nil=>intro v e;cases e;exact rfl
 | cons e xs ih=>
  intro v ⟨w,r,e',h,t⟩
  subst e'
  unfold ddel without at ih ⊢
  by_cases q:e.1=k
  ·rw [List.filter_cons_of_neg (by simpa using q),List.filter_cons_of_neg (by simpa using q)];exact ih t
  ·rw [List.filter_cons_of_pos (by simpa using q),List.filter_cons_of_pos (by simpa using q)];exact ⟨w,_,rfl,h,ih t⟩
theorem FsR.look {x:MV}{n:Str}{fs:List MV}:∀ {ns:List Str}{kvs:KVs},FsR c m fs ns kvs→ns.Nodup→∀ {i:Nat},fs[i]?=some x→ns[i]?=some n→∃v,valueAt kvs (.inr n) =some v∧VR c m x v:=by
 induction fs with
 | nil=>intro _ _ _ _ i e;cases e
 | cons y ys ih=>
  intro _ _ ⟨k,ns,v,r,e1,e2,a,b⟩ h i e e'
  subst e1 e2
  cases i with
  | zero=>exact ⟨v,find_t (e:=(Sum.inr k,v)) (congrArg Sum.inr (Option.some.inj e')),Option.some.inj e▸a⟩
  | succ i=>
   have h':=List.nodup_cons.mp h
   obtain ⟨u,h1,h2⟩:=ih b h'.2 e e'
   exact ⟨u,(find_f (e:=(Sum.inr k,v)) fun q=>h'.1 ((Sum.inr.inj q:k=n)▸List.mem_of_getElem? e')).trans h1,h2⟩
theorem FsR.no {n:Str}{fs:List MV}:∀ {ns:List Str}{kvs:KVs},FsR c m fs ns kvs→n∉ns→valueAt kvs (.inr n) =none:=by
 induction fs with
 | nil=>intro _ _ ⟨e1,e2⟩ _;subst e2;rfl
 | cons y ys ih=>
  intro _ _ ⟨k,ns,v,r,e1,e2,a,b⟩ h
  subst e1 e2
  exact (find_f (e:=(Sum.inr k,v)) fun q=>h ((Sum.inr.inj q:k=n)▸ .head _)).trans (ih b fun q=>h (.tail _ q))
end
end Mine
end
section
namespace Mine
open PySem PySem.W PySem.Calls PyProof.Rows
inductive LstO (c:Wo)(m:Mp)(xs:List MV)(o:Obj):Prop
 | mk (vs:List Value)(n:Nat):o=oLst vs n→VRs c m xs vs→LstO c m xs o
inductive DctO (c:Wo)(m:Mp)(es:Dict)(o:Obj):Prop
 | mk (kvs:KVs):o.IsDictOf c.kd kvs→PR c m es kvs→DctO c m es o
noncomputable def OR (c:Wo)(m:Mp):MO→Obj→Prop
 | .list xs=>LstO c m xs
 | .dict es=>DctO c m es
theorem OR.up {c:Wo}{m m':Mp}(h:m.le m'){b:Obj}(o:MO)(r:OR c m o b):OR c m' o b:=by
 cases o with
 | list xs=>exact r.rec fun vs n e r=>⟨vs,n,e,r.up h⟩
 | dict es=>exact r.rec fun kvs i r=>⟨kvs,i,r.up h⟩
noncomputable abbrev Sg.at (g:Sg)(a:Addr):Option Obj:=g.s.heap.get? a
noncomputable def Sg.on (g:Sg)(h:Heap)(t:Nat):Sg:=⟨g.m,g.H,{g.s with heap:=h,toks:=t}⟩
noncomputable def Sg.put (g:Sg)(a:Nat)(k:Cell):Sg:=⟨g.m,g.H.set a k,g.s⟩
structure CellOk (c:Wo)(g:Sg)(k:Cell)(a:Addr):Prop where
 o:∃o,g.at a=some o∧OR c g.m k.o o
 z:k.md≠ .frz→g.m.Z a=none
 sys:(a == sysModules) =false
 frz:k.md= .frz→∃o,g.m.Z a=some o
structure SR (c:Wo)(g:Sg):Prop where
 z:∀a o,g.m.Z a=some o→g.at a=some o
 base:∀a o,c.G.get? a=some o→g.m.Z a=some o
 len:g.m.ρ.length=g.H.length
 nodup:g.m.ρ.Nodup
 cells:∀(i:Nat) (k:Cell) (a:Addr),g.H[i]?=some k→g.m.ρ[i]?=some a→CellOk c g k a
structure Priv (g:Sg)(a:Addr):Prop where
 z:g.m.Z a=none
 r:a∉g.m.ρ
noncomputable def Kn (g:Sg)(a:Addr):Prop:=(∃o,g.m.Z a=some o)∨a∈g.m.ρ
noncomputable def Mutb (g:Sg)(a:Addr):Prop:=∃(i:Nat)(o:MO),g.m.ρ[i]?=some a∧g.H[i]?=some ⟨.chg,o⟩
noncomputable def framesAt (l:List Env)(a:Addr):Prop:=∃e∈l,e.frame=some a
noncomputable def Same (l:List Env)(a:Addr)(o:Obj)(p:Option Obj):Prop:=∃sl,p=some {o with slots:=sl}∧(¬ framesAt l a→sl=o.slots)
structure Step (l:List Env)(X:List Addr)(g g':Sg):Prop where
 same:∃h t,g'.s= {g.s with heap:=h,toks:=t}
 up:g.m.le g'.m
 md:∀(i:Nat) (k:Cell),g.H[i]?=some k→k.md≠ .chg→g'.H[i]?=some k
 keep:∀a o,g.at a=some o→¬ Mutb g a→a∉X→Same l a o (g'.at a)
 fresh:∀a,Kn g' a→Kn g a∨g.at a=none
 freshr:∀a,a∈g'.m.ρ→a∈g.m.ρ∨g.at a=none
 live:∀a o,g.at a=some o→∃o',g'.at a=some o'
theorem none_of {p:Option Obj}(h:∀o,p≠some o):p=none:=by
 cases p with
 | none=>rfl
 | some o=>exact absurd rfl (h o)
theorem Mutb.mem {g:Sg}{a:Addr}(h:Mutb g a):a∈g.m.ρ:=let ⟨_,_,e,_⟩:=h;List.mem_of_getElem? e
theorem Priv.not {g:Sg}{a:Addr}(h:Priv g a)(k:Kn g a):False:=k.elim (fun ⟨o,e⟩=>nomatch h.z.symm.trans e) h.r
theorem Priv.of {g:Sg}{a:Addr}(h:¬ Kn g a):Priv g a:=⟨none_of fun o e=>h (.inl ⟨o,e⟩),fun e=>h (.inr e)⟩
theorem nodup_idx {α:Type}{ρ:List α}(hn:ρ.Nodup){i j:Nat}{a:α}(hi:ρ[i]?=some a)(hj:ρ[j]?=some a):i=j:=by
 obtain ⟨h1,e1⟩:=List.getElem?_eq_some_iff.mp hi
 obtain ⟨h2,e2⟩:=List.getElem?_eq_some_iff.mp hj
 exact (List.getElem_inj hn).mp (e1.trans e2.symm)
theorem Same.rfl' {l:List Env}{a:Addr}{o:Obj}{p:Option Obj}(e:p=some o):Same l a o p:=⟨o.slots,e,fun _=>rfl⟩
theorem Same.eq {a:Addr}{o:Obj}{p:Option Obj}(h:Same [] a o p):p=some o:=by
 obtain ⟨sl,e,h⟩:=h
 rw [e,h fun ⟨_,q,_⟩=>nomatch q]
section
variable {c:Wo}{l:List Env}{X:List Addr}{g g' g'':Sg}
theorem Step.refl:Step l X g g:=⟨⟨g.s.heap,g.s.toks,rfl⟩, .refl _,fun _ _ e _=>e,fun _ _ e _ _=> .rfl' e,fun _=> .inl,fun _=> .inl,fun _ o e=>⟨o,e⟩⟩
theorem Step.chgb (S:Step l X g g')(R:SR c g)(R':SR c g'){a:Addr}{o:Obj}(e:g.at a=some o)(k:Mutb g' a):Mutb g a:=by
 obtain ⟨i,o',e1,e2⟩:=k
 rcases S.freshr a (List.mem_of_getElem? e1) with q | q
 ·obtain ⟨j,hj⟩:=List.mem_iff_getElem?.mp q
  obtain rfl:=nodup_idx R'.nodup (pre_get S.up.r hj) e1
  obtain ⟨k,hc⟩:∃k,g.H[j]?=some k:=⟨_,List.getElem?_eq_getElem (R.len▸(List.getElem?_eq_some_iff.mp hj).1)⟩
  have key:k.md≠ .chg→k= ⟨.chg,o'⟩:=fun n=>Option.some.inj ((S.md j k hc n).symm.trans e2)
  obtain ⟨m,oo⟩:=k
  cases m with
  | chg=>exact ⟨j,oo,hj,hc⟩
  | lock=>cases key (by nofun)
  | frz=>cases key (by nofun)
 ·exact nomatch q.symm.trans e
theorem Step.absent (S:Step l X g g'){a:Addr}(e:g'.at a=none):g.at a=none:=none_of fun o q=>let ⟨_,e'⟩:=S.live a o q;nomatch e.symm.trans e'
theorem Step.trans (S:Step l X g g')(R:SR c g)(R':SR c g')(S':Step l X g' g''):Step l X g g'' where
 same:=by
  obtain ⟨h,t,e⟩:=S.same
  obtain ⟨h',t',e'⟩:=S'.same
  exact ⟨h',t',by rw [e',e]⟩
 up:=S.up.trans S'.up
 md:=fun i k e n=>S'.md i k (S.md i k e n) n
 keep:=fun a o e n x=>by
  obtain ⟨sl,e1,h1⟩:=S.keep a o e n x
  obtain ⟨sl',e2,h2⟩:=S'.keep a _ e1 (fun m=>n (S.chgb R R' e m)) x
  exact ⟨sl',e2,fun hf=>(h2 hf).trans (h1 hf)⟩
 fresh:=fun a k=>(S'.fresh a k).elim (S.fresh a) fun q=> .inr (S.absent q)
 freshr:=fun a k=>(S'.freshr a k).elim (S.freshr a) fun q=> .inr (S.absent q)
 live:=fun a o e=>let ⟨o',e'⟩:=S.live a o e;S'.live a o' e'
theorem Step.weaken {X':List Addr}(S:Step l X g g')(h:∀a∈X,a∈X'∨g.at a=none):Step l X' g g':=
 {S with keep:=fun a o e n x=>S.keep a o e n fun q=>(h a q).elim x fun q=>nomatch q.symm.trans e}
theorem Step.x (S:Step [] X g g'):Step l X g g':={S with keep:=fun a o e n x=> .rfl' (S.keep a o e n x).eq}
theorem Step.priv (S:Step l X g g'){a:Addr}{o:Obj}(p:Priv g a)(e:g.at a=some o):Priv g' a:=
 .of fun k=>(S.fresh a k).elim p.not fun q=>nomatch q.symm.trans e
theorem Step.kp (S:Step l X g g'){a:Addr}{o:Obj}(p:Priv g a)(x:a∉X)(e:g.at a=some o):Same l a o (g'.at a):=S.keep a o e (fun m=>p.r m.mem) x
theorem SR.cell (R:SR c g){i:Nat}{k:Cell}(e:g.H[i]?=some k):∃a,g.m.ρ[i]?=some a∧CellOk c g k a:=by
 have hc:=List.getElem?_eq_getElem (l:=g.m.ρ) (R.len▸(List.getElem?_eq_some_iff.mp e).1)
 exact ⟨_,hc,R.cells i k _ e hc⟩
theorem SR.there (R:SR c g){a:Addr}(k:Kn g a):∃o,g.at a=some o:=by
 rcases k with ⟨o,e⟩ | h
 ·exact ⟨o,R.z a o e⟩
 ·obtain ⟨i,hi⟩:=List.mem_iff_getElem?.mp h
  exact (R.cells i _ a (List.getElem?_eq_getElem (R.len▸(List.getElem?_eq_some_iff.mp hi).1)) hi).o.imp fun _ h=>h.1
theorem SR.absent (R:SR c g){a:Addr}(h:g.at a=none):Priv g a:= .of fun k=>let ⟨_,e⟩:=R.there k;nomatch h.symm.trans e
theorem SR.of_but (R:SR c g){h:Heap}{t:Nat}(k:∀a o,g.at a=some o→a∉X→h.get? a=some o)(hx:∀a∈X,Priv g a):SR c (g.on h t):=
 have kn:∀a o,g.at a=some o→Kn g a→h.get? a=some o:=fun a o e q=>k a o e fun m=>(hx a m).not q
 ⟨fun a o e=>kn a o (R.z a o e) (.inl ⟨o,e⟩),R.base,R.len,R.nodup,fun i k a e e'=>have C:=R.cells i k a e e';{C with o:=C.o.imp fun o h=>⟨kn a o h.1 (.inr (List.mem_of_getElem? e')),h.2⟩}⟩
theorem SR.of_ext (R:SR c g){h:Heap}{t:Nat}(k:∀a o,g.at a=some o→h.get? a=some o):SR c (g.on h t):=R.of_but (X:=[]) (fun a o e _=>k a o e) fun _ h=>nomatch h
theorem Step.of_but {h:Heap}{t:Nat}(k:∀a o,g.at a=some o→a∉X→h.get? a=some o)(v:∀a∈X,∀o,g.at a=some o→∃o',h.get? a=some o'):Step l X g (g.on h t):=
 ⟨⟨h,t,rfl⟩, .refl _,fun _ _ e _=>e,fun a o e _ x=> .rfl' (k a o e x),fun _=> .inl,fun _=> .inl,fun a o e=>(Classical.em (a∈X)).elim (fun x=>v a x o e) fun x=>⟨o,k a o e x⟩⟩
theorem Step.of_ext {h:Heap}{t:Nat}(k:∀a o,g.at a=some o→h.get? a=some o):Step l X g (g.on h t):= .of_but (fun a o e _=>k a o e) fun a _ o e=>⟨o,k a o e⟩
theorem push_none (h:Heap):h.get? h.objs.size=none:=none_of fun _ q=>Nat.lt_irrefl _ (Heap.lt_size q)
noncomputable def zput (Z:ZMap)(a:Addr)(o:Obj):ZMap:=fun b=>if b=a then some o else Z b
theorem zput_at {Z:ZMap}{a:Addr}{o:Obj}:zput Z a o a=some o:=if_pos rfl
theorem zput_ne {Z:ZMap}{a b:Addr}{o:Obj}(h:b≠a):zput Z a o b=Z b:=if_neg h
noncomputable def Sg.fz (g:Sg)(a:Addr)(o:Obj):Sg:=⟨⟨zput g.m.Z a o,g.m.ρ⟩,g.H,g.s⟩
theorem fz_le {a:Addr}{o:Obj}(h:∀o',g.m.Z a=some o'→o'=o):g.m.le (g.fz a o).m:=⟨fun b o' e=>(Classical.em (b=a)).elim (fun q=>by subst q;rw [h o' e];exact zput_at) fun q=>(zput_ne q).trans e,List.prefix_refl _⟩
theorem fz_priv {a:Addr}{o:Obj}(p:Priv g a):g.m.le (g.fz a o).m:=fz_le fun o' e=>nomatch p.z.symm.trans e
theorem SR.frozen (R:SR c g){a:Addr}{o:Obj}(e:g.at a=some o)(p:Priv g a):SR c (g.fz a o):=
 ⟨fun b o' q=>(Classical.em (b=a)).elim (fun h=>by subst h;exact Option.some.inj (zput_at.symm.trans q)▸e) fun h=>R.z b o' ((zput_ne h).symm.trans q),fun b o' q=>(fz_priv p).z b o' (R.base b o' q),R.len,R.nodup,fun i k b q q'=>
  have C:=R.cells i k b q q'
  ⟨C.o.imp fun o' h=>⟨h.1,h.2.up (fz_priv p)⟩,fun n=>(zput_ne fun (h:b=a)=>p.r (h▸List.mem_of_getElem? q')).trans (C.z n),C.sys,fun n=>(C.frz n).imp fun o' h=>(fz_priv p).z b o' h⟩⟩
theorem Step.frozen (S:Step l X g g'){a:Addr}{o:Obj}(p:Priv g' a)(hn:g.at a=none):Step l X g (g'.fz a o):=
 ⟨S.same,S.up.trans (fz_priv p),S.md,S.keep,fun b k=>(Classical.em (b=a)).elim (fun h=> .inr (h▸hn)) fun h=>S.fresh b (k.imp (fun ⟨o',q⟩=>⟨o',(zput_ne h).symm.trans q⟩) id),S.freshr,S.live⟩
noncomputable def Sg.cl (g:Sg)(a:Addr)(k:Cell):Sg:=⟨⟨g.m.Z,g.m.ρ ++ [a]⟩,g.H ++ [k],g.s⟩
theorem cl_le {a:Addr}{k:Cell}:g.m.le (g.cl a k).m:=⟨fun _ _ e=>e,List.prefix_append _ _⟩
theorem snoc_at {α:Type}{l:List α}{x y:α}{i:Nat}(e:(l ++ [x])[i]?=some y):l[i]?=some y∨i=l.length∧y=x:=by
 rcases Nat.lt_or_ge i l.length with h | h
 ·exact .inl ((List.getElem?_append_left h).symm.trans e)
 ·rw [List.getElem?_append_right h] at e
  obtain ⟨h1,h2⟩:=List.getElem?_eq_some_iff.mp e
  have:i - l.length=0:=Nat.lt_one_iff.mp h1
  exact .inr ⟨Nat.le_antisymm (Nat.sub_eq_zero_iff_le.mp this) h,(h2.symm.trans (by simp [this]))⟩
theorem SR.celled (R:SR c g){a:Addr}{o:Obj}{m:MO}(e:g.at a=some o)(p:Priv g a)(hs:(a == sysModules) =false)(ho:OR c g.m m o):SR c (g.cl a ⟨.chg,m⟩):=
 ⟨R.z,R.base,by show (g.m.ρ ++ [a]).length= (g.H ++ [_]).length;rw [List.length_append,List.length_append,R.len];rfl,List.nodup_append.mpr ⟨R.nodup,List.nodup_cons.mpr ⟨List.not_mem_nil,List.nodup_nil⟩,fun x hx y hy q=>p.r (by rw [← List.mem_singleton.mp hy,← q];exact hx)⟩,fun i k b q q'=>by
  rcases snoc_at q with h | ⟨h,rfl⟩
  ·have C:=R.cells i k b h ((List.getElem?_append_left (R.len▸(List.getElem?_eq_some_iff.mp h).1)).symm.trans q')
   exact {C with o:=C.o.imp fun o' h=>⟨h.1,h.2.up cl_le⟩}
  ·rcases snoc_at q' with h' | ⟨_,rfl⟩
   ·have:=(List.getElem?_eq_some_iff.mp h').1;rw [R.len,h] at this;exact absurd this (Nat.lt_irrefl _)
   ·exact ⟨⟨o,e,ho.up cl_le⟩,fun _=>p.z,hs,nofun⟩⟩
theorem Step.celled (S:Step l X g g'){a:Addr}{k:Cell}(hn:g.at a=none):Step l X g (g'.cl a k):=
 ⟨S.same,S.up.trans cl_le,fun i k e n=>have:=S.md i k e n;(List.getElem?_append_left (List.getElem?_eq_some_iff.mp this).1).trans this,S.keep,
  fun b q=>q.elim (fun h=>S.fresh b (.inl h)) fun h=>(List.mem_append.mp h).elim (fun h=>S.fresh b (.inr h)) fun h=> .inr ((List.mem_singleton.mp h).symm▸hn),
  fun b h=>(List.mem_append.mp h).elim (S.freshr b) fun h=> .inr ((List.mem_singleton.mp h).symm▸hn),S.live⟩
theorem get_set {H:Hp}{i j:Nat}{k d:Cell}(e:(H.set i k)[j]?=some d):(j=i∧d=k)∨(j≠i∧H[j]?=some d):=by
 rw [List.getElem?_set] at e
 split at e
 ·rename_i h
  split at e
  ·exact .inl ⟨h.symm,(Option.some.inj e).symm⟩
  ·cases e
 ·rename_i h;exact .inr ⟨fun q=>h q.symm,e⟩
theorem SR.changed (R:SR c g){i:Nat}{a:Addr}{k₀ k:Cell}{h:Heap}{t:Nat}(hi:g.H[i]?=some k₀)(ha:g.m.ρ[i]?=some a)(hk:∀b o,b≠a→g.at b=some o→h.get? b=some o)(hz:∀o,g.m.Z a=some o→h.get? a=some o)
  (C:CellOk c ((g.put i k).on h t) k a):SR c ((g.put i k).on h t):=
 ⟨fun b o q=>(Classical.em (b=a)).elim (fun e=>by subst e;exact hz o q) fun e=>hk b o e (R.z b o q),R.base,by show _= (g.H.set i k).length;rw [List.length_set];exact R.len,R.nodup,fun j d b q q'=>by
  rcases get_set q with ⟨rfl,rfl⟩ | ⟨hne,q⟩
  ·cases ha.symm.trans q';exact C
  ·have D:=R.cells j d b q q'
   exact {D with o:=D.o.imp fun o' h=>⟨hk b o' (fun e=>hne (nodup_idx R.nodup q' (by rw [e];exact ha))) h.1,h.2⟩}⟩
theorem Step.changed {i:Nat}{a:Addr}{k k₀:Cell}{h:Heap}{t:Nat}(hi:g.H[i]?=some k₀)(ha:g.m.ρ[i]?=some a)(hm:k₀.md= .chg∨k=k₀∧h.get? a=g.at a)(hk:∀b o,b≠a→g.at b=some o→h.get? b=some o)(e:∃o,h.get? a=some o):Step l X g ((g.put i k).on h t):=
 ⟨⟨h,t,rfl⟩, .refl _,fun j d q n=>by
  show (g.H.set i k)[j]?=_
  rw [List.getElem?_set]
  split
  ·rename_i hq;subst hq;cases hi.symm.trans q
   rw [if_pos (List.getElem?_eq_some_iff.mp hi).1]
   rcases hm with hm | hm
   ·exact absurd hm n
   ·rw [hm.1]
  ·exact q,
  fun b o q n _=> .rfl' <| (Classical.em (b=a)).elim (fun hq=>by
   subst hq
   rcases hm with hm | hm
   ·exact absurd ⟨i,k₀.o,ha,hi.trans (congrArg some (by rw [← hm]))⟩ n
   ·exact hm.2.trans q) fun hq=>hk b o hq q,fun _=> .inl,fun _=> .inl,fun b o q=>(Classical.em (b=a)).elim (fun hq=>hq▸e) fun hq=>⟨o,hk b o hq q⟩⟩
noncomputable def Sg.frz (g:Sg)(i:Nat)(a:Addr)(m:MO)(o:Obj):Sg:=(g.put i ⟨.frz,m⟩).fz a o
theorem SR.freezes (R:SR c g){i:Nat}{a:Addr}{md:Md}{m:MO}{o:Obj}(hi:g.H[i]?=some ⟨md,m⟩)(ha:g.m.ρ[i]?=some a)(ho:g.at a=some o)(hr:OR c g.m m o):SR c (g.frz i a m o)∧g.m.le (g.frz i a m o).m:=by
 have le:g.m.le (g.frz i a m o).m:=fz_le fun o' e=>Option.some.inj ((R.z a o' e).symm.trans ho)
 refine ⟨⟨fun b o' q=>(Classical.em (b=a)).elim (fun h=>by subst h;exact Option.some.inj (zput_at.symm.trans q)▸ho) fun h=>R.z b o' ((zput_ne h).symm.trans q),fun b o' q=>le.z b o' (R.base b o' q),by show _= (g.H.set i _).length;rw [List.length_set];exact R.len,R.nodup,fun j k b q q'=>?_⟩,le⟩
 rcases get_set q with ⟨rfl,rfl⟩ | ⟨hne,q⟩
 ·cases ha.symm.trans q'
  exact ⟨⟨o,ho,hr.up le⟩,fun n=>absurd rfl n,(R.cells j _ a hi ha).sys,fun _=>⟨o,zput_at⟩⟩
 ·have C:=R.cells j k b q q'
  exact ⟨C.o.imp fun o' h=>⟨h.1,h.2.up le⟩,fun n=>(zput_ne fun e=>hne (nodup_idx R.nodup q' (by rw [e];exact ha))).trans (C.z n),C.sys,fun n=>(C.frz n).imp fun o' h=>le.z b o' h⟩
theorem Step.freezes (R:SR c g){i:Nat}{a:Addr}{md:Md}{m:MO}{o:Obj}(hi:g.H[i]?=some ⟨md,m⟩)(hl:noLock md)(ha:g.m.ρ[i]?=some a)(ho:g.at a=some o):Step l X g (g.frz i a m o):=
 ⟨⟨g.s.heap,g.s.toks,rfl⟩,fz_le fun o' e=>Option.some.inj ((R.z a o' e).symm.trans ho),fun j k q n=>by
  show (g.H.set i _)[j]?=_
  rw [List.getElem?_set]
  split
  ·rename_i hq;subst hq;cases hi.symm.trans q
   cases md with
   | chg=>exact absurd rfl n
   | lock=>exact hl.elim
   | frz=>rw [if_pos (List.getElem?_eq_some_iff.mp hi).1]
  ·exact q,fun b o' q _ _=> .rfl' q,fun b k=> .inl ((Classical.em (b=a)).elim (fun h=> .inr (h▸List.mem_of_getElem? ha)) fun h=>k.imp (fun ⟨o',q⟩=>⟨o',(zput_ne h).symm.trans q⟩) id),fun _=> .inl,fun _ o' e=>⟨o',e⟩⟩
end
end Mine
end
section
namespace Mine
open PySem PySem.W PySem.Calls PyProof.Rows
inductive Rec (g₀ g:Sg)(e:Addr)(p:Value→Prop)(q:Array Value→Prop):Prop
 | mk (o:Obj)(vs:Array Value):g₀.at e=none→Priv g e→g.at e=some o→p o.cls→o.data= .fields vs→q vs→Rec g₀ g e p q
inductive Tail (g₀ g:Sg)(e:Addr)(v b:Value):Prop
 | mk (T:Addr):b= .ref T→T≠e→Rec g₀ g T (fun _=>True) (fun ts=>ts[3]?=some v)→Tail g₀ g e v b
noncomputable def Newest (g₀ g:Sg)(e:Addr)(f:Option Value)(b:Value):Prop:=match f with
 | none=>b= .none
 | some v=>Tail g₀ g e v b
inductive IsExc (g₀ g:Sg)(e:Addr)(f:Option Value)(vs:Array Value):Prop
 | mk (b:Value):vs[2]?=some .none→4 < vs.size→vs[1]?=some b→Newest g₀ g e f b→IsExc g₀ g e f vs
inductive Raised (g₀ g:Sg)(f:Option Value)(E:Value):Prop
 | mk (e:Addr):E= .ref e→Rec g₀ g e (· = .ref 71) (IsExc g₀ g e f)→Raised g₀ g f E
inductive FrOk (g:Sg)(e:Env):Prop
 | mk (L:Addr)(o:Obj):e.scope.kind≠ .module→e.frame=some L→Priv g L→g.at L=some o→(∀vs,o.data≠ .fields vs)→FrOk g e
noncomputable def FrsOk (g:Sg)(l:List Env):Prop:=∀e∈l,FrOk g e
structure Fx where
 A:Around
 l:List Env
 X:List Addr
 fl:Option Value→Prop
inductive Nd (c:Wo)(l:List Env)(X:List Addr)(g:Sg)(N:Sg→Prop)(s:Shared):Prop
 | mk (g':Sg):g'.s=s→SR c g'→Step l X g g'→N g'→Nd c l X g N s
structure Xc (φ:Fx)(g:Sg)(e:Value)(E:Hp→Prop)(g':Sg):Prop where
 frs:FrsOk g' φ.l
 fl:∃f,φ.fl f∧Raised g g' f e
 E:E g'.H
noncomputable def Sm {β:Type}(c:Wo)(φ:Fx)(t:Sem β)(g:Sg)(N:β→Sg→Prop)(E:Hp→Prop):Prop:=
 SR c g→wpAny (model c.prog c.w) φ.A t (fun b=>Nd c [] φ.X g (N b)) (fun e=>Nd c φ.l φ.X g (Xc φ g e E)) g.s
section
variable {c:Wo}{φ:Fx}{l:List Env}{X:List Addr}{g g':Sg}{E:Hp→Prop}
theorem Rec.back {e:Addr}{p:Value→Prop}{q q':Array Value→Prop}(r:Rec g g' e p q){g₀:Sg}(k:∀a,g.at a=none→g₀.at a=none)(h:∀vs,q vs→q' vs):Rec g₀ g' e p q':=r.rec fun o vs a b d e f i=>⟨o,vs,k _ a,b,d,e,f,h vs i⟩
theorem Raised.back {f:Option Value}{e:Value}(r:Raised g g' f e){g₀:Sg}(k:∀a,g.at a=none→g₀.at a=none):Raised g₀ g' f e:=
 r.rec fun e a r=>⟨e,a,r.back k fun vs i=>i.rec fun b a1 a2 a3 a4=>⟨b,a1,a2,a3,by
  cases f with
  | none=>exact a4
  | some v=>exact a4.rec fun T h1 h2 r=>⟨T,h1,h2,r.back k fun _ q=>q⟩⟩⟩
theorem Xc.back {e:Value}{φ':Fx}{g₀:Sg}(x:Xc φ' g e E g')(k:∀a,g.at a=none→g₀.at a=none)(hl:φ'.l=φ.l)(hf:∀f,φ'.fl f→φ.fl f):Xc φ g₀ e E g':=⟨hl▸x.frs,x.fl.imp fun f h=>⟨hf f h.1,h.2.back k⟩,x.E⟩
theorem Nd.since {N:Sg→Prop}{s:Shared}{g₀:Sg}(S:Step l X g₀ g)(R₀:SR c g₀)(R:SR c g)(h:Nd c l X g N s):Nd c l X g₀ N s:=h.rec fun g' e R' S' n=>⟨g',e,R',S.trans R₀ R S',n⟩
theorem Nd.mono {N N':Sg→Prop}{s:Shared}(h:Nd c l X g N s)(k:∀g',SR c g'→Step l X g g'→N g'→N' g'):Nd c l X g N' s:=h.rec fun g' e R' S' n=>⟨g',e,R',S',k g' R' S' n⟩
theorem Nd.xsince {s:Shared}{e:Value}{g₀:Sg}(S:Step [] φ.X g₀ g)(R₀:SR c g₀)(R:SR c g)(h:Nd c φ.l φ.X g (Xc φ g e E) s):Nd c φ.l φ.X g₀ (Xc φ g₀ e E) s:=(h.since S.x R₀ R).mono fun _ _ _ x=>x.back (fun _=>S.absent) rfl fun _ q=>q
section
variable {β δ:Type}{t:Sem β}{N N':β→Sg→Prop}
theorem Sm.bind {f:β→Sem δ}{M:δ→Sg→Prop}(h:Sm c φ t g N E)(k:∀b g',SR c g'→Step [] φ.X g g'→N b g'→Sm c φ (f b) g' M E):Sm c φ (t >>= f) g M E:=fun R=>
 wpAny_bind (wpAny_mono (h R) (fun b s q=>by
  obtain ⟨g',rfl,R',S,n⟩:=q
  exact wpAny_mono (k b g' R' S n R') (fun _ _ q=>q.since S R R') fun _ _ q=>q.xsince S R R') fun _ _ q=>q)
theorem Sm.pure {b:β}(h:N b g):Sm c φ (Pure.pure b) g N E:=fun R=>wpAny_pure ⟨g,rfl,R, .refl,h⟩
theorem Sm.mono (h:Sm c φ t g N E)(k:∀b g',SR c g'→Step [] φ.X g g'→N b g'→N' b g'):Sm c φ t g N' E:=fun R=>wpAny_mono (h R) (fun b _ q=>q.mono (k b)) fun _ _ q=>q
theorem Sm.fl {A:Around}{l:List Env}{fl fl':Option Value→Prop}(h:Sm c ⟨A,l,X,fl⟩ t g N E)(hf:∀f,fl f→fl' f):Sm c ⟨A,l,X,fl'⟩ t g N E:=fun R=>
 wpAny_mono (h R) (fun _ _ q=>q) fun _ _ q=>q.mono fun _ _ _ x=>x.back (fun _ q=>q) rfl hf
theorem Sm.weaken {A:Around}{l:List Env}{fl:Option Value→Prop}{X':List Addr}(h:Sm c ⟨A,l,X,fl⟩ t g N E)(hx:∀a∈X,a∈X'∨g.at a=none):Sm c ⟨A,l,X',fl⟩ t g N E:=fun R=>
 wpAny_mono (h R) (fun _ _ q=>q.rec fun g' e R' S n=>⟨g',e,R',S.weaken hx,n⟩) fun _ _ q=>q.rec fun g' e R' S n=>⟨g',e,R',S.weaken hx,n.back (fun _ q=>q) rfl fun _ q=>q⟩
theorem Sm.nil {A:Around}{l:List Env}{fl:Option Value→Prop}(h:Sm c ⟨A,l,[],fl⟩ t g N E):Sm c ⟨A,l,X,fl⟩ t g N E:=h.weaken fun _ q=>nomatch q
theorem Sm.tree {t':Sem β}(h:Sm c φ t g N E)(k:∀Q E s,wpAny (model c.prog c.w) φ.A t Q E s→wpAny (model c.prog c.w) φ.A t' Q E s):Sm c φ t' g N E:=fun R=>k _ _ _ (h R)
theorem Sm.standAt {p:Pos}{t:Unit→Sem β}(h:Sm c φ (t ()) g N E):Sm c φ (standAt p >>= t) g N E:=h.tree fun _ _ _ q=>wpAny_bind (wpAny_standAt q)
theorem Sm.rule {p:String}{t:Unit→Sem β}(h:Sm c φ (t ()) g N E):Sm c φ (rule p >>= t) g N E:=h.tree fun _ _ _ q=>wpAny_bind (wpAny_rule q)
theorem Sm.point {t:Unit→Sem β}(h:Sm c φ (t ()) g N E):Sm c φ (point >>= t) g N E:=h.tree fun _ _ _ q=>wpAny_bind (wpAny_point q)
theorem Sm.holding {vs:List Value}(h:Sm c φ t g N E):Sm c φ (holding vs t) g N E:=h.tree fun _ _ _ q=>wpAny_holding q
theorem Sm.retk {f:β→δ}{M:δ→Sg→Prop}(h:Sm c φ t g (fun b=>M (f b)) E):Sm c φ (t >>= fun b=>Pure.pure (f b)) g M E:=h.bind fun _ _ _ _ q=> .pure q
end
theorem wpAny_operate' {M:Model}{A:Around}{s:Shared}{vs:List Value}{t:Sem Value}{Q:Value→Shared→Prop}{E:Value→Shared→Prop}(h:wpAny M A t Q E s):wpAny M A (operate vs t) Q E s:=fun Γ p hΓ=>by
 rw [Sem.wp_operate];exact h Γ p hΓ
theorem Sm.operate {t:Sem Value}{vs:List Value}{N:Value→Sg→Prop}(h:Sm c φ t g N E):Sm c φ (operate vs t) g N E:=h.tree fun _ _ _ q=>wpAny_operate' q
inductive VN (c:Wo)(Q:Po MV)(V:Value)(g:Sg):Prop
 | mk (v:MV):VR c g.m v V→Q v g.H→VN c Q V g
inductive VsN (c:Wo)(Q:Po (List MV))(V:List Value)(g:Sg):Prop
 | mk (v:List MV):VRs c g.m v V→Q v g.H→VsN c Q V g
noncomputable def BN (Q:Po Bool)(b:Bool)(g:Sg):Prop:=Q b g.H
inductive BV (Q:Po Bool)(V:Value)(g:Sg):Prop
 | mk (b:Bool):V= .bool b→Q b g.H→BV Q V g
variable {N:Sg→Prop}{Q:Po MV}{V:Value}{v:MV}
theorem nd_on (R:SR c g){h:Heap}{t:Nat}(k:∀a o,g.at a=some o→h.get? a=some o)(n:N (g.on h t)):Nd c l X g N {g.s with heap:=h,toks:=t}:=⟨g.on h t,rfl,R.of_ext k, .of_ext k,n⟩
theorem nd_tok (R:SR c g){t:Nat}(n:N (g.on g.s.heap t)):Nd c l X g N {g.s with toks:=t}:=nd_on R (fun _ _ e=>e) n
theorem nd_same (R:SR c g)(n:N g):Nd c l X g N g.s:=⟨g,rfl,R, .refl,n⟩
theorem vn_same (R:SR c g)(hv:VR c g.m v V)(q:Q v g.H):Nd c l X g (VN c Q V) g.s:=nd_same R ⟨v,hv,q⟩
theorem vn_tok (R:SR c g){t:Nat}(hv:VR c g.m v V)(q:Q v g.H):Nd c l X g (VN c Q V) {g.s with toks:=t}:=nd_tok R ⟨v,hv,q⟩
theorem vI (R:SR c g){i:Int}{t:Tok}{k:Nat}(q:Q (.int i) g.H):Nd c l X g (VN c Q (.int i t)) {g.s with toks:=k}:=nd_tok R ⟨.int i,⟨t,rfl⟩,q⟩
theorem vS (R:SR c g){i:Str}{t:Tok}{k:Nat}(q:Q (.str i) g.H):Nd c l X g (VN c Q (.str i t)) {g.s with toks:=k}:=nd_tok R ⟨.str i,⟨t,rfl⟩,q⟩
theorem push_keep {o:Obj}(a:Addr)(p:Obj)(e:g.at a=some p):(g.s.heap.push o).get? a=some p:=Heap.get?_push_of_some _ e
theorem nd_frozen (R:SR c g){h:Heap}{t:Nat}{D:Addr}{o:Obj}(k:∀a o,g.at a=some o→h.get? a=some o)(hD:h.get? D=some o)(hn:g.at D=none)(n:g.m.le ((g.on h t).fz D o).m→N ((g.on h t).fz D o)):Nd c l X g N {g.s with heap:=h,toks:=t}:=
 have p:Priv (g.on h t) D:=(SR.absent R hn).rec fun a b=>⟨a,b⟩
 ⟨(g.on h t).fz D o,rfl,(R.of_ext k).frozen hD p,(Step.of_ext k).frozen p hn,n (fz_priv (g:=g.on h t) p)⟩
theorem nd_cell (R:SR c g){h:Heap}{t:Nat}{D:Addr}{o:Obj}{m:MO}(k:∀a o,g.at a=some o→h.get? a=some o)(hD:h.get? D=some o)(hn:g.at D=none)(hs:(D == sysModules) =false)(ho:OR c g.m m o)(q:alloc m Q g.H):Nd c l X g (VN c Q (.ref D)) {g.s with heap:=h,toks:=t}:=
 have p:Priv (g.on h t) D:=(SR.absent R hn).rec fun a b=>⟨a,b⟩
 ⟨(g.on h t).cl D ⟨.chg,m⟩,rfl,(R.of_ext k).celled hD p hs ho,(Step.of_ext k).celled hn, .ref g.H.length,⟨D,rfl,by
  show (g.m.ρ ++ [D])[g.H.length]?=_
  rw [← R.len,List.getElem?_concat_length]⟩,q⟩
theorem nd_mkList (R:SR c g){h:Heap}{t:Nat}{D:Addr}{xs:List MV}{vs:List Value}{n:Nat}{m:Bool}(k:∀a o,g.at a=some o→h.get? a=some o)(hD:h.get? D=some (oLst vs n))(hn:g.at D=none)(hs:(D == sysModules) =false)(hv:VRs c g.m xs vs)
  (q:mkList m xs Q g.H):Nd c l X g (VN c Q (.ref D)) {g.s with heap:=h,toks:=t}:=by
 cases m with
 | false=>exact nd_frozen R k hD hn fun le=>⟨.lst xs,⟨D,vs,n,rfl,hs,zput_at,hv.up le⟩,q.2⟩
 | true=>exact nd_cell (m:= .list xs) R k hD hn hs ⟨vs,n,rfl,hv⟩ q.2
theorem nd_mkDict (R:SR c g){h:Heap}{t:Nat}{D:Addr}{es:Dict}{kvs:KVs}{m:Bool}(k:∀a o,g.at a=some o→h.get? a=some o)(hD:h.DictOf c.kd D kvs)(hn:g.at D=none)(hs:(D == sysModules) =false)(hv:PR c g.m es kvs)
  (q:mkDict m es Q g.H):Nd c l X g (VN c Q (.ref D)) {g.s with heap:=h,toks:=t}:=by
 obtain ⟨o,ho,hd⟩:=Heap.dictOf_iff.mp hD
 cases m with
 | false=>exact nd_frozen R k ho hn fun le=>⟨.dct es,⟨D,o,kvs,rfl,hs,zput_at,hd,hv.up le⟩,q.2⟩
 | true=>exact nd_cell (m:= .dict es) R k ho hn hs ⟨kvs,hd,hv⟩ q.2
end
structure Wd (c:Wo):Prop where
 g:c.G.Ns mainGlobals c.mg
 b:c.G.Ns builtinsNs c.mb
 bl:∀x:Str,x≠ "__name__"→c.mb x=bootBuiltins x
 nolimit:c.G.NoLimit
 sysm:∃o,c.G.get? sysModules=some o
theorem SR.not_sys {c:Wo}{g:Sg}(W:Wd c)(R:SR c g){a:Addr}(h:g.at a=none):(a == sysModules) =false:=by
 obtain ⟨o,ho⟩:=W.sysm
 exact beq_eq_false_iff_ne.mpr fun q=>nomatch (q▸h).symm.trans (R.z _ _ (R.base _ _ ho))
theorem sizeMost_le {n:Nat}(h:n≤sizeMost):n≤sizeLine:=Nat.le_trans h (by rw [sizeLine_eq];decide)
section
variable {c:Wo}{φ:Fx}{g:Sg}{E:Hp→Prop}{Q:Po MV}
theorem sim_newTuple (W:Wd c){xs:List MV}{vs:List Value}(hv:VRs c g.m xs vs)(hl:vs.length≤sizeMost)(q:Q (.tup xs) g.H):Sm c φ (newTuple vs) g (VN c Q) E:=fun R=>
 wpAny_newObj_type (nd_frozen R push_keep (Heap.get?_push_size _ rfl) (push_none _) fun le=>⟨.tup xs,⟨_,vs,_,rfl,R.not_sys W (push_none _),zput_at,hv.up le⟩,q⟩) (by show vs.toArray.size≤sizeLine;rw [List.size_toArray];exact sizeMost_le hl)
theorem sim_newList (W:Wd c){xs:List MV}{vs:List Value}{m:Bool}(hv:VRs c g.m xs vs)(q:mkList m xs Q g.H):Sm c φ (newList vs) g (VN c Q) E:=fun R=>
 wpAny_newObj_type (nd_mkList (n:=0) R push_keep (Heap.get?_push_size _ rfl) (push_none _) (R.not_sys W (push_none _)) hv q) (by show vs.toArray.size≤sizeLine;rw [List.size_toArray,← hv.length];exact sizeMost_le q.1)
end
inductive At (c:Wo)(g:Sg)(V:Value)(P:MO→Prop):Prop
 | mk (a:Addr)(o:MO)(b:Obj):V= .ref a→g.at a=some b→OR c g.m o b→(a == sysModules) =false→P o→At c g V P
theorem SR.deref {c:Wo}{g:Sg}(R:SR c g){v:MV}{V:Value}(hv:VR c g.m v V){P:MO→Prop}(h:deref v g.H P):At c g V P:=by
 cases v with
 | lst xs=>exact hv.rec fun a vs n e q z r=>⟨a, .list xs,_,e,R.z _ _ z,⟨vs,n,rfl,r⟩,q,h⟩
 | dct es=>exact hv.rec fun a o kvs e q z i r=>⟨a, .dict es,_,e,R.z _ _ z,⟨kvs,i,r⟩,q,h⟩
 | ref i=>
  obtain ⟨a,e,r⟩:=hv
  obtain ⟨k,e',p⟩:=h
  have C:=R.cells i k a e' r
  obtain ⟨o,h1,h2⟩:=C.o
  exact ⟨a,_,o,e,h1,h2,C.sys,p⟩
 | _=>exact h.elim
inductive AtL (c:Wo)(g:Sg)(V:Value)(P:List MV→Prop):Prop
 | mk (a:Addr)(xs:List MV)(vs:List Value)(n:Nat):V= .ref a→g.at a=some (oLst vs n)→VRs c g.m xs vs→(a == sysModules) =false→P xs→AtL c g V P
inductive AtD (c:Wo)(g:Sg)(V:Value)(P:Dict→Prop):Prop
 | mk (a:Addr)(es:Dict)(kvs:KVs):V= .ref a→g.s.heap.DictOf c.kd a kvs→PR c g.m es kvs→(a == sysModules) =false→P es→AtD c g V P
theorem SR.derL {c:Wo}{g:Sg}(R:SR c g){v:MV}{V:Value}(hv:VR c g.m v V){P:List MV→Prop}(h:derL v g.H P):AtL c g V P:=by
 obtain ⟨a,o,b,e,h1,h2,s,p⟩:=R.deref hv h
 cases o with
 | dict es=>exact p.elim
 | list xs=>obtain ⟨vs,n,rfl,r⟩:=h2;exact ⟨a,xs,vs,n,e,h1,r,s,p⟩
theorem SR.derD {c:Wo}{g:Sg}(R:SR c g){v:MV}{V:Value}(hv:VR c g.m v V){P:Dict→Prop}(h:derD v g.H P):AtD c g V P:=by
 obtain ⟨a,o,b,e,h1,h2,s,p⟩:=R.deref hv h
 cases o with
 | list es=>exact p.elim
 | dict xs=>exact h2.rec fun kvs i r=>⟨a,xs,kvs,e,Heap.dictOf_iff.mpr ⟨b,h1,i⟩,r,s,p⟩
inductive Cel (c:Wo)(g:Sg)(V:Value)(i:Nat)(o:MO):Prop
 | mk (a:Addr)(b:Obj):V= .ref a→g.m.ρ[i]?=some a→g.m.Z a=none→g.at a=some b→OR c g.m o b→(a == sysModules) =false→Cel c g V i o
theorem SR.chg {c:Wo}{g:Sg}(R:SR c g){i:Nat}{V:Value}{o:MO}(hv:VR c g.m (.ref i) V)(e:g.H[i]?=some ⟨.chg,o⟩):Cel c g V i o:=by
 obtain ⟨a,e',r⟩:=hv
 have C:=R.cells i _ a e r
 obtain ⟨b,h1,h2⟩:=C.o
 exact ⟨a,b,e',r,C.z (by nofun),h1,h2,C.sys⟩
theorem nd_store {c:Wo}{g:Sg}{l:List Env}{X:List Addr}{N:Sg→Prop}(R:SR c g){i:Nat}{a:Addr}{o o':MO}{b:Obj}{h:Heap}{t:Nat}(e:g.H[i]?=some ⟨.chg,o⟩)(ha:g.m.ρ[i]?=some a)(hs:Heap.SameBut a g.s.heap h)(hb:h.get? a=some b)(ho:OR c g.m o' b)
  (n:N ((g.put i ⟨.chg,o'⟩).on h t)):Nd c l X g N {g.s with heap:=h,toks:=t}:=
 have C:=R.cells i _ a e ha
 have k:∀b o,b≠a→g.at b=some o→h.get? b=some o:=fun c o hc e=>(hs.2 c hc).trans e
 ⟨(g.put i ⟨.chg,o'⟩).on h t,rfl,R.changed e ha k (fun o q=>nomatch (C.z (by nofun)).symm.trans q) ⟨⟨b,hb,ho⟩,fun _=>C.z (by nofun),C.sys,nofun⟩, .changed e ha (.inl rfl) k ⟨b,hb⟩,n⟩
end Mine
end
section
namespace Mine
open PySem PySem.W PySem.Calls PyProof.Rows PySem.SeqAt
inductive IntAt (V:Value)(Q:Int→Prop):Prop
 | mk (i:Int)(t:Tok):V= .int i t→Q i→IntAt V Q
inductive StrAt (V:Value)(Q:Str→Prop):Prop
 | mk (i:Str)(t:Tok):V= .str i t→Q i→StrAt V Q
inductive BytesAt (V:Value)(Q:List UInt8→Prop):Prop
 | mk (i:List UInt8)(t:Tok):V= .bytes i.toArray t→Q i→BytesAt V Q
inductive KeyAt (V:Value)(Q:Key→Prop):Prop
 | mk (k:Key):keyIs k V=true→Q k→KeyAt V Q
section
variable {c:Wo}{m:Mp}{v:MV}{V:Value}
theorem VR.asInt (hv:VR c m v V){Q:Int→Prop}(h:asInt v Q):IntAt V Q:=by
 cases v with
 | int i=>exact hv.elim fun t e=>⟨i,t,e,h⟩
 | _=>exact h.elim
theorem VR.asStr (hv:VR c m v V){Q:Str→Prop}(h:asStr v Q):StrAt V Q:=by
 cases v with
 | str i=>exact hv.elim fun t e=>⟨i,t,e,h⟩
 | _=>exact h.elim
theorem VR.asBytes (hv:VR c m v V){Q:List UInt8→Prop}(h:asBytes v Q):BytesAt V Q:=by
 cases v with
 | bytes i=>exact hv.elim fun t e=>⟨i,t,e,h⟩
 | _=>exact h.elim
theorem VR.asKey (hv:VR c m v V){Q:Key→Prop}(h:asKey v Q):KeyAt V Q:=by
 cases v with
 | int i=>exact hv.elim fun t e=>⟨_,e▸is_int i t,h⟩
 | str i=>exact hv.elim fun t e=>⟨_,e▸is_str i t,h⟩
 | _=>exact h.elim
theorem VR.asBool (hv:VR c m v V){Q:Bool→Prop}(h:asBool v Q):∃b,V= .bool b∧Q b:=by
 cases v with
 | bool i=>exact ⟨i,hv,h⟩
 | _=>exact h.elim
theorem VR.asTup (hv:VR c m v V){Q:List MV→Prop}(h:asTup v Q):∃xs,SeqR "tuple" m (VRs c m xs) V∧Q xs:=by
 cases v with
 | tup i=>exact ⟨i,hv,h⟩
 | _=>exact h.elim
theorem VR.asLst (hv:VR c m v V){Q:List MV→Prop}(h:asLst v Q):∃xs,SeqR "list" m (VRs c m xs) V∧Q xs:=by
 cases v with
 | lst i=>exact ⟨i,hv,h⟩
 | _=>exact h.elim
theorem VR.asDct (hv:VR c m v V){Q:Dict→Prop}(h:asDct v Q):∃xs,DctR c m (PR c m xs) V∧Q xs:=by
 cases v with
 | dct i=>exact ⟨i,hv,h⟩
 | _=>exact h.elim
end
section
variable {s:Shared}
theorem isList {a:Addr}{vs:List Value}{k:Nat}(h:s.heap.get? a=some (oLst vs k)):s.heap.IsList a vs.toArray:=⟨_,h,rfl,k,rfl⟩
theorem isTuple {a:Addr}{vs:List Value}{k:Nat}(h:s.heap.get? a=some (oTup vs k)):s.heap.IsTuple a vs.toArray:=⟨_,h,rfl,k,rfl⟩
end
section
variable {c:Wo}{φ:Fx}{g:Sg}{E:Hp→Prop}{Q:Po MV}{a b:MV}{U V:Value}
theorem slot_tadd:Slot "tuple" "__add__" "tuple.__add__":=PySem.F.slot_tuple_add
noncomputable def Bo.at:Bo→Operator
 | .add=> .Add
 | .sub=> .Sub
 | .fdiv=> .FloorDiv
 | .mod=> .Mod
 | .pow=> .Pow
 | .shr=> .RShift
 | .and=> .BitAnd
theorem sim_add (W:Wd c)(ha:VR c g.m a U)(hb:VR c g.m b V)(h:addM a b fun v=>Q v g.H):Sm c φ (binaryOp .Add U V) g (VN c Q) E:=fun R=>by
 cases a with
 | int x=>
  obtain ⟨t,rfl⟩:=ha
  obtain ⟨y,u,rfl,q⟩:=hb.asInt h
  with_reducible refine add_int ?_
  exact vI R q
 | str x=>
  obtain ⟨t,rfl⟩:=ha
  obtain ⟨y,u,rfl,hl,q⟩:=hb.asStr h
  with_reducible refine add_str (fun t' tk=>?_) (sizeMost_le hl)
  exact vS R q
 | tup xs=>
  obtain ⟨ys,hy,hne,hl,q⟩:=hb.asTup h
  obtain ⟨a',vs,k,rfl,sy,z,r⟩:=ha
  obtain ⟨b',us,k',rfl,sy',z',r'⟩:=hy
  have ho:=R.z _ _ z
  have ho':=R.z _ _ z'
  have ti:g.s.TypeIs (.ref a') "tuple":=⟨_,ho,rfl⟩
  have ti':g.s.TypeIs (.ref b') "tuple":=⟨_,ho',rfl⟩
  have hne':¬ vs.toArray.isEmpty=true:=fun q=>by
   have e:vs= []:=by simpa using q
   exact hne (List.length_eq_zero_iff.mp (r.length.trans (by rw [e];rfl)))
  by_cases hy:us.toArray.isEmpty=true
  ·have e:us= []:=by simpa using hy
   have e':ys= []:=List.length_eq_zero_iff.mp (r'.length.trans (by rw [e];rfl))
   subst e e'
   with_reducible refine concat_meets ti ti' noFill_tuple_add seq_tuple_add slot_tadd PySem.F.entry_tuple_add (PySem.F.args_tuple_add_2 _ _) (tuple_addW1 a' b' vs.toArray _ k k' none none #[] #[] hne' hy) ⟨ho,ho',?_⟩
   rw [List.append_nil] at q
   exact vn_same (v:= .tup xs) R ⟨a',vs,k,rfl,sy,z,r⟩ q
  ·have e:vs.toArray ++ us.toArray= (vs ++ us).toArray:=by simp
   have hsz:vs.toArray.size+us.toArray.size≤sizeLine:=by rw [List.size_toArray,List.size_toArray,← r.length,← r'.length];exact sizeMost_le hl
   with_reducible refine concat_meets ti ti' noFill_tuple_add seq_tuple_add slot_tadd PySem.F.entry_tuple_add (PySem.F.args_tuple_add_2 _ _) (tuple_addW2 a' b' vs.toArray us.toArray k k' none none #[] #[] hne' hy hsz) ⟨ho,ho',?_⟩
   rw [e]
   exact nd_frozen R push_keep (Heap.get?_push_size _ rfl) (push_none _) fun le=>⟨.tup (xs ++ ys),⟨_,vs ++ us,_,rfl,R.not_sys W (push_none _),zput_at,(r'.append r).up le⟩,q⟩
 | _=>exact h.elim
theorem bits_small {x y:Int}(h:x=2∨x=10)(h1:0≤y)(h2:y≤100):(Builtin.Int.intBits x:Int) * y≤1000:=by
 have h4:(Builtin.Int.intBits x:Int)≤10:=by rcases h with rfl | rfl <;> decide
 exact Int.mul_le_mul h4 h2 h1 (by decide)
theorem sim_bin (W:Wd c)(op:Bo)(ha:VR c g.m a U)(hb:VR c g.m b V)(h:binM op a b fun v=>Q v g.H):Sm c φ (binaryOp op.at U V) g (VN c Q) E:=by
 by_cases hop:op= .add
 ·subst hop;exact sim_add W ha hb h
 intro R
 have h:Mine.asInt a fun x=>Mine.asInt b fun y=>arM op x y fun v=>Q v g.H:=by
  cases op with
  | add=>exact absurd rfl hop
  | _=>exact h
 obtain ⟨x,t,rfl,h⟩:=ha.asInt h
 obtain ⟨y,u,rfl,h⟩:=hb.asInt h
 cases op with
 | add=>exact absurd rfl hop
 | sub=>exact sub_int (vI R h)
 | mod=>obtain ⟨h1,h⟩:=h;exact mod_int (Int.ne_of_gt h1) (vI R h)
 | fdiv=>obtain ⟨h1,h2,h⟩:=h;exact floordiv_int (Int.ne_of_gt h1) (vI R h) (Or.inl (PyProof.noPylong_small (by omega)))
 | pow=>obtain ⟨h0,h1,h2,h⟩:=h;exact pow_int h1 (Int.le_trans (bits_small h0 h1 h2) (by decide)) (vI R h)
 | shr=>obtain ⟨h0,h1,h2,h⟩:=h;exact rshift_int h1 (vI R h)
 | and=>
  obtain ⟨h0,rfl,h⟩:=h
  refine and_int ?_
  rw [show Builtin.bitAnd x 1=x.fmod 2 from kbt_maskF x 1]
  exact vI R h
end
section
variable {c:Wo}{g:Sg}
theorem ints_are {l:List Int}:∀ {vs:List Value},VRs c g.m (l.map .int) vs→IntsAre vs l:=by
 induction l with
 | nil=>intro vs h;cases h;exact .nil
 | cons i l ih=>intro vs ⟨v,r,e,⟨t,e'⟩,b⟩;rw [e,e'];exact .cons i t (ih b)
theorem strs_are {l:List Str}:∀ {vs:List Value},VRs c g.m (l.map .str) vs→StrsAre vs l:=by
 induction l with
 | nil=>intro vs h;cases h;exact .nil
 | cons i l ih=>intro vs ⟨v,r,e,⟨t,e'⟩,b⟩;rw [e,e'];exact .cons i t (ih b)
theorem str_beq (i j:Str):(i == j) =strB i j:=by unfold strB;by_cases q:i=j <;> simp [q]
noncomputable def Cp (A:Around)(s:Shared)(U V:Value)(r:Bool):Prop:=RcAt A s U V r∧EqAt A s U V r
theorem eq1_cp (R:SR c g){A:Around}(hu:A.units < cLine){a b:MV}{U V:Value}(ha:VR c g.m a U)(hb:VR c g.m b V)(h:eqOk a b):Cp A g.s U V (eqB a b):=by
 cases a with
 | int i=>
  obtain ⟨t,rfl⟩:=ha
  cases b with
  | int j=>obtain ⟨u,rfl⟩:=hb;exact ⟨RcAt.int_int _ _ _ _,EqAt.int_int _ _ _ _⟩
  | str j=>obtain ⟨u,rfl⟩:=hb;exact ⟨RcAt.int_str _ _ _ _,EqAt.int_str _ _ _ _⟩
  | _=>exact h.elim
 | str i=>
  obtain ⟨t,rfl⟩:=ha
  cases b with
  | int j=>obtain ⟨u,rfl⟩:=hb;exact ⟨RcAt.str_int _ _ _ _,EqAt.str_int _ _ _ _⟩
  | str j=>obtain ⟨u,rfl⟩:=hb;show Cp _ _ _ _ (strB i j);rw [← str_beq];exact ⟨RcAt.str_str _ _ _ _,EqAt.str_str _ _ _ _⟩
  | lst ys=>obtain ⟨b,us,k,rfl,_,z,_⟩:=hb;exact ⟨.str_list _ _ (isList (R.z _ _ z)) hu, .str_list _ _ (isList (R.z _ _ z)) hu⟩
  | _=>exact h.elim
 | lst xs=>
  obtain ⟨x,t,rfl,h⟩:=hb.asStr h
  obtain ⟨b,us,k,rfl,_,z,_⟩:=ha
  exact ⟨.list_str _ _ (isList (R.z _ _ z)) hu, .list_str _ _ (isList (R.z _ _ z)) hu⟩
 | _=>exact h.elim
theorem bytes_rc (A:Around)(s:Shared)(a:List UInt8)(t:Tok)(u:Tok):RcAt A s (.bytes a.toArray t) (.bytes a.toArray u) true:=fun prog w E Q h=>
 PySem.W.eq_bytes (prog:=prog) (w:=w) (A:=A) (E:=E) (s:=s) (b:=a.toArray) (c:=a.toArray) (t:=t) (u:=u) (Q:=Q) (by rw [beq_self_eq_true];exact h)
theorem bytes_eq (A:Around)(s:Shared)(a:List UInt8)(t:Tok)(u:Tok):EqAt A s (.bytes a.toArray t) (.bytes a.toArray u) true:=fun prog w E Q h=>
 wpAny_holding (wpAny_ite_split (fun _=>wpAny_bind (wpAny_rule (wpAny_pure h))) fun _=>wpAny_bind (bytes_rc A s a t u prog w E _ (wpAny_truthy_bool h)))
theorem VRs.both {xs:List MV}:∀ {vs us:List Value},VRs c g.m xs vs→VRs c g.m xs us→∀(i:Nat)(h:i < vs.toArray.size)(h':i < us.toArray.size),∃x∈xs,VR c g.m x vs.toArray[i]∧VR c g.m x us.toArray[i]:=by
 intro vs us h h' i hi hi'
 rw [List.size_toArray] at hi hi'
 have hx:i < xs.length:=h.length▸hi
 obtain ⟨v,e,r⟩:=h.get (List.getElem?_eq_getElem hx)
 obtain ⟨u,e',r'⟩:=h'.get (List.getElem?_eq_getElem hx)
 refine ⟨xs[i],List.getElem_mem hx,?_,?_⟩
 ·rw [List.getElem_toArray,← Option.some.inj (e.symm.trans (List.getElem?_eq_getElem hi))];exact r
 ·rw [List.getElem_toArray,← Option.some.inj (e'.symm.trans (List.getElem?_eq_getElem hi'))];exact r'
theorem plain_cp (R:SR c g)(n:Nat):∀ {A:Around} (_:A.units+n < cLine){a:MV}{U V:Value} (_:VR c g.m a U) (_:VR c g.m a V) (_:plainT n a),Cp A g.s U V true:=by
 induction n with
 | zero=>intro _ _ _ _ _ _ _ h;exact h.elim
 | succ n ih=>
  intro A hu a U V ha hb h
  cases a with
  | int i=>obtain ⟨t,rfl⟩:=ha;obtain ⟨u,rfl⟩:=hb;have:=RcAt.int_int (A:=A) (s:=g.s) i t i u;exact beq_self_eq_true i▸⟨RcAt.int_int _ _ _ _,EqAt.int_int _ _ _ _⟩
  | str i=>obtain ⟨t,rfl⟩:=ha;obtain ⟨u,rfl⟩:=hb;exact beq_self_eq_true i▸⟨RcAt.str_str _ _ _ _,EqAt.str_str _ _ _ _⟩
  | bytes i=>obtain ⟨t,rfl⟩:=ha;obtain ⟨u,rfl⟩:=hb;exact ⟨bytes_rc _ _ _ _ _,bytes_eq _ _ _ _ _⟩
  | tup xs=>
   obtain ⟨p,vs,k,rfl,_,z,r⟩:=ha
   obtain ⟨q,us,k',rfl,_,z',r'⟩:=hb
   have hsz:vs.toArray.size=us.toArray.size:=by rw [List.size_toArray,List.size_toArray,← r.length,← r'.length]
   have T:=RcAt.tuples (e:=fun _=>true) (isTuple (R.z _ _ z)) (isTuple (R.z _ _ z')) (A:=A) (Nat.lt_of_le_of_lt (Nat.le_add_right _ _) hu) fun j h1 h2=>by
    obtain ⟨x,hx,rx,ry⟩:=r.both r' j h1 h2
    exact (ih (A:=A.in1) (by show A.units+1+n < cLine;rw [Nat.add_right_comm];exact hu) rx ry (h x hx)).2
   have e:((List.range (min vs.toArray.size us.toArray.size)).all (fun _=>true) && vs.toArray.size == us.toArray.size) =true:=by rw [hsz];simp
   rw [e] at T
   refine ⟨T,?_⟩
   by_cases hq:p=q
   ·subst hq;exact .same _
   ·exact .of_refs hq T
  | _=>exact h.elim
end
end Mine
end
section
namespace Mine
open PySem PySem.W PySem.Calls PyProof.Rows PySem.SeqAt
section
variable {c:Wo}{φ:Fx}{g:Sg}{E:Hp→Prop}{a b:MV}{U V:Value}{Q:Po Bool}
theorem vB {l:List Env}{X:List Addr}(R:SR c g){r r':Bool}(h:r=r')(q:Q r' g.H):Nd c l X g (BV Q (.bool r)) g.s:=nd_same R ⟨r',by rw [h],q⟩
theorem vBt {l:List Env}{X:List Addr}(R:SR c g){t:Nat}{r r':Bool}(h:r=r')(q:Q r' g.H):Nd c l X g (BV Q (.bool r)) {g.s with toks:=t}:=nd_tok R ⟨r',by rw [h],q⟩
theorem isN_none (ha:VR c g.m a U):(U == .none) =isN a:=by
 cases a with
 | none=>rw [show U= .none from ha];rfl
 | bool b=>rw [show U= .bool b from ha];rfl
 | inst k i=>exact ha.rec fun _ _ _ _ e _ _ _ _ _=>e▸rfl
 | ref i=>exact ha.elim fun _ h=>h.1▸rfl
 | dct i=>exact ha.rec fun _ _ _ e _ _ _ _=>e▸rfl
 | tup i=>exact ha.rec fun _ _ _ e _ _ _=>e▸rfl
 | lst i=>exact ha.rec fun _ _ _ e _ _ _=>e▸rfl
 | _=>exact ha.elim fun _ e=>e▸rfl
noncomputable def ev (x:MV)(v:Value):Bool:=match x with
 | .int a=>(match v with
  | .int b _=>b == a
  | _=>false)
 | .str a=>(match v with
  | .str b _=>strB b a
  | _=>false)
 | _=>false
theorem ev_eq {x y:MV}{v:Value}(h:VR c g.m y v)(k:eqOk y x):eqB y x=ev x v:=by
 cases y with
 | int i=>obtain ⟨t,rfl⟩:=h;cases x <;> first | rfl | exact k.elim
 | str i=>obtain ⟨t,rfl⟩:=h;cases x <;> first | rfl | exact k.elim
 | lst i=>
  cases x with
  | str s=>obtain ⟨_,_,_,rfl,_⟩:=h;rfl
  | _=>exact k.elim
 | _=>exact k.elim
theorem in_seq (R:SR c g){A:Around}(hu:A.units < cLine){x:MV}{V:Value}(hx:VR c g.m x V){ys:List MV}:∀ {vs:List Value},VRs c g.m ys vs→allOk x ys→(∀v∈vs,EqAt A g.s v V (ev x v))∧vs.any (ev x) =ys.any fun y=>eqB y x:=by
 induction ys with
 | nil=>intro vs h _;cases h;exact ⟨nofun,rfl⟩
 | cons y ys ih=>
  intro vs h k
  obtain ⟨v,r,e,a,b⟩:=h
  obtain ⟨h1,h2⟩:=ih b k.2
  have e':=ev_eq a k.1
  subst e
  refine ⟨fun u hu'=>(List.mem_cons.mp hu').elim (fun q=>by rw [q,id,← e'];exact (eq1_cp R hu a hx k.1).2) (h1 u),?_⟩
  rw [List.any_cons,List.any_cons,e',h2];rfl
noncomputable def Cm.at:Cm→CmpOp
 | .eq=> .Eq
 | .ne=> .NotEq
 | .lt=> .Lt
 | .le=> .LtE
 | .gt=> .Gt
 | .is=> .Is
 | .isnt=> .IsNot
 | .in=> .In
 | .notin=> .NotIn
theorem keyB_some {es:Dict}{kvs:KVs}(h:PR c g.m es kvs)(k:Key):(valueAt kvs k).isSome= (dlook es k).isSome:=by
 have:=h.look k
 revert this
 cases dlook es k with
 | none=>intro h;rw [show valueAt kvs k=none from h];rfl
 | some x=>intro h;exact h.elim fun v h=>h.1▸rfl
theorem sim_in (ng:Bool)(hu:φ.A.units+400 < cLine)(ha:VR c g.m a U)(hb:VR c g.m b V)(h:inM a b g.H fun r=>Q (if ng then !r else r) g.H):Sm c φ (compareOp (if ng then .NotIn else .In) U V) g (BV Q) E:=fun R=>by
 have hu1:φ.A.in1.units < cLine:=by show φ.A.units+1 < cLine;omega
 have seq:∀ {ys:List MV}{vs:List Value}{a':Addr},VRs c g.m ys vs→inL a ys (fun r=>Q (if ng then !r else r) g.H)→(g.s.heap.IsList a' vs.toArray∨g.s.heap.IsTuple a' vs.toArray)→
   wpAny (model c.prog c.w) φ.A (compareOp (if ng then .NotIn else .In) U (.ref a')) (fun b=>Nd c [] φ.X g (BV Q b)) (fun e=>Nd c φ.l φ.X g (Xc φ g e E)) g.s:=by
  intro ys vs a' hr hq hl
  obtain ⟨h3,h4⟩:=in_seq R hu1 ha hr hq.1
  have e:vs.toArray.any (ev a) =ys.any fun y=>eqB y a:=by rw [List.any_toArray,h4]
  have h3':∀y∈vs.toArray,EqAt φ.A.in1 g.s y U (ev a y):=fun y hy=>h3 y (by simpa using hy)
  cases ng with
  | false=>exact hl.elim (fun hl=>in_listAt _ hl h3' (vB R e hq.2)) fun hl=>in_tupleAt _ hl h3' (vB R e hq.2)
  | true=>exact hl.elim (fun hl=>notIn_listAt _ hl h3' (vB R (congrArg Bool.not e) hq.2)) fun hl=>notIn_tupleAt _ hl h3' (vB R (congrArg Bool.not e) hq.2)
 have gen:Mine.deref b g.H (fun o=>match o with
  | .list ys=>inL a ys fun r=>Q (if ng then !r else r) g.H
  | .dict es=>Mine.asKey a fun k=>Q (if ng then !(dlook es k).isSome else (dlook es k).isSome) g.H)→wpAny (model c.prog c.w) φ.A (compareOp (if ng then .NotIn else .In) U V) (fun b=>Nd c [] φ.X g (BV Q b)) (fun e=>Nd c φ.l φ.X g (Xc φ g e E)) g.s:=fun h=>by
  obtain ⟨a',o,ob,rfl,h1,h2,hs,q⟩:=R.deref hb h
  cases o with
  | list ys=>exact h2.rec fun vs n e r=>seq r q (.inl (isList (e▸h1)))
  | dict es=>
   obtain ⟨kvs,i,r⟩:=h2
   obtain ⟨k,hk,q⟩:=ha.asKey q
   have hd:g.s.heap.DictOf c.kd a' kvs:=Heap.dictOf_iff.mpr ⟨ob,h1,i⟩
   cases ng with
   | false=>exact wpAny_in_of (knd:=c.kd) hk hs hd.mapOf (vBt R (keyB_some r k) q)
   | true=>exact wpAny_notIn_of (knd:=c.kd) hk hs hd.mapOf (vBt R (congrArg Bool.not (keyB_some r k)) q)
 cases b with
 | tup ys=>exact hb.rec fun a' vs n e _ z r=>by subst e;exact seq r h (.inr (isTuple (R.z _ _ z)))
 | _=>exact gen h
theorem sim_eq (hu:φ.A.units+400 < cLine)(ha:VR c g.m a U)(hb:VR c g.m b V)(h:eqM a b fun r=>Q r g.H):Sm c φ (compareOp .Eq U V) g (BV Q) E:=fun R=>by
 have hu':φ.A.units < cLine:=Nat.lt_of_le_of_lt (Nat.le_add_right _ _) hu
 have one:eqOk a b→Q (eqB a b) g.H→wpAny (model c.prog c.w) φ.A (compareOp .Eq U V) (fun b=>Nd c [] φ.X g (BV Q b)) (fun e=>Nd c φ.l φ.X g (Xc φ g e E)) g.s:=fun k q=>(eq1_cp R hu' ha hb k).1 _ _ _ _ (vB R rfl q)
 cases a with
 | tup xs=>
  obtain ⟨rfl,p,q⟩:=h
  exact (plain_cp R 50 (A:=φ.A) (by omega) ha hb p).1 _ _ _ _ (vB R rfl q)
 | dct es=>
  obtain ⟨fs,hd,hne,rfl,q⟩:=hb.asDct h
  obtain ⟨p,o,kvs,rfl,s1,z,i,r⟩:=ha
  obtain ⟨p',o',kvs',rfl,s2,z',i',r'⟩:=hd
  cases r'
  refine keq_eq (r:=false) s1 s2 (Heap.dictOf_iff.mpr ⟨_,R.z _ _ z,i⟩) (Heap.dictOf_iff.mpr ⟨_,R.z _ _ z',i'⟩) (by omega) (fun e=>absurd (List.length_eq_zero_iff.mp (r.length.trans e)) hne) ?_
  exact vB R (Bool.and_false _) q
 | int x=>
  cases b with
  | int y=>exact one ⟨⟩ h
  | str y=>exact one ⟨⟩ h
  | _=>exact h.elim
 | str x=>
  cases b with
  | int y=>exact one ⟨⟩ h
  | str y=>exact one ⟨⟩ h
  | lst y=>exact one ⟨⟩ h
  | _=>exact h.elim
 | lst x=>
  cases b with
  | str y=>exact one ⟨⟩ h
  | _=>exact h.elim
 | _=>exact h.elim
theorem sim_ne (hu:φ.A.units+400 < cLine)(ha:VR c g.m a U)(hb:VR c g.m b V)(h:neM a b fun r=>Q r g.H):Sm c φ (compareOp .NotEq U V) g (BV Q) E:=fun R=>by
 cases a with
 | int x=>obtain ⟨t,rfl⟩:=ha;obtain ⟨y,u,rfl,q⟩:=hb.asInt h;exact ne_int (vB R rfl q)
 | str x=>obtain ⟨t,rfl⟩:=ha;obtain ⟨y,u,rfl,q⟩:=hb.asStr h;exact PyProof.Rows.ne_str (vB R (congrArg Bool.not (str_beq x y)) q)
 | lst xs=>
  obtain ⟨ys,hy,k,rfl,l,rfl,q⟩:=hb.asLst h
  obtain ⟨p,vs,n,rfl,_,z,r⟩:=ha
  obtain ⟨p',vs',n',rfl,_,z',r'⟩:=hy
  exact ne_intsK (isList (R.z _ _ z)) (ints_are r) (isList (R.z _ _ z')) (ints_are r') (by omega) (vB R rfl q)
 | _=>exact h.elim
theorem sim_cmp (op:Cm)(hu:φ.A.units+400 < cLine)(ha:VR c g.m a U)(hb:VR c g.m b V)(h:cmpM op a b g.H fun r=>Q r g.H):Sm c φ (compareOp op.at U V) g (BV Q) E:=by
 cases op with
 | eq=>exact sim_eq hu ha hb h
 | ne=>exact sim_ne hu ha hb h
 | lt=>exact fun R=>by obtain ⟨x,t,rfl,h⟩:=ha.asInt h;obtain ⟨y,u,rfl,q⟩:=hb.asInt h;exact lt_int (vB R rfl q)
 | le=>exact fun R=>by obtain ⟨x,t,rfl,h⟩:=ha.asInt h;obtain ⟨y,u,rfl,q⟩:=hb.asInt h;exact le_int (vB R rfl q)
 | gt=>exact fun R=>by obtain ⟨x,t,rfl,h⟩:=ha.asInt h;obtain ⟨y,u,rfl,q⟩:=hb.asInt h;exact gt_int (vB R rfl q)
 | is=>exact fun R=>by obtain ⟨rfl,q⟩:=h;cases hb;exact is_none_gen (vB R (isN_none ha) q)
 | isnt=>exact fun R=>by obtain ⟨rfl,q⟩:=h;cases hb;exact isnot_none_gen (vB R (congrArg Bool.not (isN_none ha)) q)
 | «in» =>exact sim_in false hu ha hb h
 | notin=>exact sim_in true hu ha hb h
end
end Mine
end
section
namespace Mine
open PySem PySem.W PySem.Calls PyProof.Rows PySem.SeqAt
section
variable {c:Wo}{φ:Fx}{g:Sg}{E:Hp→Prop}{v i x:MV}{V I Y:Value}{Q:Po MV}
theorem seqIndex_in {j n:Nat}(h:j < n):seqIndex? (j:Int) n=some j:=by
 unfold seqIndex?
 have h1:¬ (j:Int) < 0:=by omega
 simp [h1];omega
theorem getElem?_arr {vs:List Value}{j:Nat}{y:Value}(h:vs[j]?=some y):vs.toArray[j]?=some y:=by simpa using h
theorem small63 {j:Nat}(h:j < 100000):(j:Int) < 2 ^ 63:=by omega
theorem sim_item (hv:VR c g.m v V)(hi:VR c g.m i I)(h:itemM v i g.H fun x=>Q x g.H):Sm c φ (getItem V I) g (VN c Q) E:=fun R=>by
 have gen:Mine.deref v g.H (fun o=>match o with
  | .list xs=>atM xs i fun x=>Q x g.H
  | .dict es=>Mine.asKey i fun k=>∃x,dlook es k=some x∧Q x g.H)→wpAny (model c.prog c.w) φ.A (getItem V I) (fun b=>Nd c [] φ.X g (VN c Q b)) (fun e=>Nd c φ.l φ.X g (Xc φ g e E)) g.s:=fun h=>by
  obtain ⟨a,o,ob,rfl,h1,h2,hs,q⟩:=R.deref hv h
  cases o with
  | list ys=>
   obtain ⟨vs,n,rfl,r⟩:=h2
   obtain ⟨_,t,rfl,j,rfl,hj,x,ex,q⟩:=hi.asInt q
   obtain ⟨y,ey,ry⟩:=r.get ex
   exact wpAny_getItem_list (isList h1) (Int.natCast_nonneg j) (small63 hj) (by rw [Int.toNat_natCast];exact getElem?_arr ey) (vn_same R ry q)
  | dict es=>
   obtain ⟨kvs,i',r⟩:=h2
   obtain ⟨k,hk,x,ex,q⟩:=hi.asKey q
   have:=r.look k
   rw [ex] at this
   obtain ⟨y,ey,ry⟩:=this
   exact wpAny_getItem_of (knd:=c.kd) hk (Heap.dictOf_iff.mpr ⟨ob,h1,i'⟩:g.s.heap.DictOf c.kd a kvs).mapOf ey (vn_tok R ry q)
 cases v with
 | tup ys=>
  obtain ⟨a,vs,n,rfl,_,z,r⟩:=hv
  obtain ⟨_,t,rfl,j,rfl,hj,x,ex,q⟩:=hi.asInt h
  obtain ⟨y,ey,ry⟩:=r.get ex
  exact getItem_tuple (isTuple (R.z _ _ z):IsTup g.s.heap a vs.toArray) (Int.le_trans (by decide) (Int.natCast_nonneg j)) (small63 hj) (seqIndex_in (by simpa using (List.getElem?_eq_some_iff.mp ey).1)) (getElem?_arr ey) (vn_same R ry q)
 | _=>exact gen h
theorem list_set0_meets (l:Addr)(v:Value)(vs:List Value)(n:Nat)(u:Tok)(y:Value) :
  Meets (Builtin.«list.__setitem__» ⟨[.ref l, .int 0 u,y],[]⟩)
   (fun _ R s=>s.heap.get? l=some {cls:= .type "list",dict:=none,data:= .seq (v::vs).toArray n,slots:= #[]}∧R (.ok (.ret .none)) {s with heap:=s.heap.update l (Obj.mapSeq (·.setIfInBounds 0 y))}):=
 .of_wp fun prog w A R s h=>by
  obtain ⟨hp,g,d,tk,os⟩:=s;obtain ⟨hl,h⟩:=h
  have hf:¬ (!Builtin.List.listFitsIndex 0) =true:=by decide
  have f1:=AutoSeq1.idx_int
  wp_walk using wpAny_loadPart' hl
  exact ⟨_,rfl,h⟩
noncomputable def UN (Q:Hp→Prop) (_:Unit)(g:Sg):Prop:=Q g.H
theorem sim_setItem {N:Hp→Prop}(hv:VR c g.m v V)(hi:VR c g.m i I)(hx:VR c g.m x Y)(h:setM v i x g.H N):Sm c φ (setItem V I Y) g (UN N) E:=fun R=>by
 cases v with
 | ref a=>
  obtain ⟨o,e,h⟩:=h
  obtain ⟨b,ob,rfl,ha,hz,hb,ho,hs⟩:=R.chg hv e
  cases o with
  | list xs=>
   obtain ⟨rfl,y,ys,rfl,q⟩:=h
   obtain ⟨t,rfl⟩:=hi
   obtain ⟨vs,n,rfl,w,r,rfl,r0,r1⟩:=ho
   have hT:g.s.TypeIs (.ref b) "list":=⟨_,hb,rfl⟩
   unfold setItem
   with_reducible refine wpAny_holding ?_
   refine wpAny_bind (wpAny_sequenceKey hT (by decide) ?_)
   refine wpAny_bind (wpAny_callSpecial?_slot (name:=Str.ofString "__setitem__") hT PySem.F.slot_list_setitem
    (call_meets PySem.F.slot_list_setitem hT PySem.F.entry_list_setitem (PySem.F.args_list_setitem_3 _ _ _) (list_set0_meets b w r n t Y) ⟨hb,wpAny_pure ?_⟩))
   refine nd_store (o':= .list (x::ys)) (t:=g.s.toks) R e ha (Heap.SameBut.update ..) (Heap.get?_update_self _ hb rfl) ⟨Y::r,n,by simp [Obj.mapSeq],Y,r,rfl,hx,r1⟩ q
  | dict es=>
   obtain ⟨k,hk,hl,q⟩:=hi.asKey h
   obtain ⟨kvs,hd,r⟩:=ho
   refine wpAny_setItem_pairs (knd:=c.kd) hk (Heap.dictOf_iff.mpr ⟨ob,hb,hd⟩) (fun h' hd' hs'=>?_) (by rw [← r.length];exact sizeMost_le (Nat.le_of_lt hl))
   obtain ⟨ob',hb',hd''⟩:=Heap.dictOf_iff.mp hd'
   exact nd_store (o':= .dict (dput es k x)) R e ha hs' hb' ⟨stored kvs k Y,hd'',r.put k hx⟩ q
 | _=>exact h.elim
theorem slice_take {items:List Value}{k:Nat}:slicePick items.toArray none (some (k:Int)) none= (items.take k).toArray:=by
 have e:sliceBounds none (some (k:Int)) none items.toArray.size= (((0:Nat):Int),((min k items.length:Nat):Int),1):=by
  have h0:¬ (k:Int) < 0:=by omega
  simp only [sliceBounds,Option.getD_none,List.size_toArray,h0,if_false,show (1:Int) > 0 by decide,if_true,Prod.mk.injEq,and_true]
  exact ⟨rfl,by omega⟩
 rw [kmk_pick_nat _ e,List.drop_zero,Nat.sub_zero]
 exact congrArg _ (kmk_take_min _ _)
theorem isStr_key {e:DictEntry}{k:Key}(h:keyIs k e.key=true)(x:Str):e.key.isStr x=decide (k= .inr x)∧e.refKey=false:=by
 rcases e with ⟨hh,key,val⟩
 cases k with
 | inl i=>
  obtain ⟨t,rfl⟩:=keyIs_int h
  exact ⟨by simp [Value.isStr],by simp [DictEntry.refKey]⟩
 | inr y=>
  obtain ⟨t,rfl⟩:=keyIs_str h
  refine ⟨?_,by simp [DictEntry.refKey]⟩
  by_cases q:y=x <;> simp [Value.isStr,q]
theorem find_pairs (x:Str){es:List DictEntry}{kvs:KVs}(h:Pairs c.kd es kvs):(es.find? (·.key.isStr x)).map (·.val) =valueAt kvs (.inr x)∧es.any (·.refKey) =false:=by
 induction h with
 | nil=>exact ⟨rfl,rfl⟩
 | @cons e kv es kvs h1 h2 _ ih=>
  obtain ⟨a,b⟩:=isStr_key h1 x
  refine ⟨?_,by rw [List.any_cons,b,ih.2];rfl⟩
  have ih:=ih.1
  unfold valueAt at ih ⊢
  rw [List.find?_cons,List.find?_cons,a]
  by_cases q:kv.1= .inr x
  ·simp [q,h2]
  ·simpa [q] using ih
theorem look_dict {o:Obj}{kvs:KVs}(h:o.IsDictOf c.kd kvs)(x:Str):lookIn x o=some (valueAt kvs (.inr x)):=by
 obtain ⟨es,ep,he,hd,hk,hp,hn⟩:=h
 obtain ⟨a,b⟩:=find_pairs x hp
 unfold lookIn
 rw [hd]
 dsimp only
 cases q:es.toList.find? (·.key.isStr x) with
 | none=>rw [q] at a;rw [← a];simp only [b];rfl
 | some e=>rw [q] at a;rw [← a];rfl
theorem VR.handed (h:VR c g.m v V):handedIn V=true:=by
 cases v with
 | none=>rw [show V= .none from h];rfl
 | bool b=>rw [show V= .bool b from h];rfl
 | inst k i=>exact h.rec fun _ _ _ _ e _ _ _ _ _=>e▸rfl
 | ref i=>exact h.elim fun _ h=>h.1▸rfl
 | dct i=>exact h.rec fun _ _ _ e _ _ _ _=>e▸rfl
 | tup i=>exact h.rec fun _ _ _ e _ _ _=>e▸rfl
 | lst i=>exact h.rec fun _ _ _ e _ _ _=>e▸rfl
 | _=>exact h.elim fun _ e=>e▸rfl
theorem instAt {s:Shared}{a c d:Addr}{o:Obj}(ha:s.heap.get? a=some (instObj c d))(hd:s.heap.get? d=some o):InstAt s.heap a (instObj c d) c (some o):=⟨ha,rfl,rfl,hd⟩
structure FldOk (c:Wo)(k:Addr)(i:Nat)(x:Str):Prop where
 at':(namesOf k)[i]?=some x
 nd:(namesOf k).Nodup
 get:plainGet c.K k x=true
 dct:hasDictIn c.K k=true
 find:∃attr,findIn c.K (.ref k) x=some attr∧noGet c.K attr=true
theorem sim_attr {k:Addr}{j:Nat}{x:Str}{expr:Bool}(hK:c.K.In g.s.heap)(F:FldOk c k j x)(hv:VR c g.m v V)(h:fdM k j v fun x=>Q x g.H):Sm c φ (getAttr V x expr) g (VN c Q) E:=fun R=>by
 cases v with
 | inst d fs=>
  have h:bif Nat.beq d k then oM fs[j]? (fun x=>Q x g.H) else False:=h
  cases hk:Nat.beq d k with
  | false=>rw [hk] at h;exact h.elim
  | true=>
   obtain rfl:=Nat.eq_of_beq_eq_true hk
   rw [hk] at h
   have h:oM fs[j]? fun x=>Q x g.H:=h
   cases hf:fs[j]? with
   | none=>rw [hf] at h;exact h.elim
   | some y=>
    rw [hf] at h
    obtain ⟨a,e,o,kvs,rfl,_,z,z',i,r⟩:=hv
    obtain ⟨Y,hY,rY⟩:=r.look F.nd hf F.at'
    obtain ⟨attr,h3,h4⟩:=F.find
    have hl:=look_dict i x
    rw [hY] at hl
    exact get_value hK (instAt (R.z _ _ z) (R.z _ _ z')) (plainGet_of F.get).1 (findObj_own F.dct h3 h4 hl) rY.handed (vn_tok R rY h)
 | _=>exact h.elim
structure OwnCl (K:Frag)(D:Addr):Prop where
 get:plainGet K D "__class__"=true
 dct:hasDictIn K D=true
 cls:findIn K (.ref D) "__class__"=some (some (.builtin "object.__class__"))
 spec:specialIn K (.builtin "object.__class__") "__get__"=some (some (.builtin "getset_descriptor.__get__"))
 takes:takesIn K (.builtin "object.__class__") =some true
 mro:mroIn K D (.type "object") =some true
noncomputable def theTys:List Ty:=[.bool, .int, .str, .lst, .dct, .cls 167, .cls 195, .cls 217, .cls 238, .cls 266]
structure TyOk (c:Wo)(T:Ty):Prop where
 none:kitOne c.K (.type "NoneType") T.at=some false
 bool:kitOne c.K (.type "bool") T.at=some T.isB
 int:kitOne c.K (.type "int") T.at=some T.isI
 str:kitOne c.K (.type "str") T.at=some T.isS
 bytes:kitOne c.K (.type "bytes") T.at=some false
 tup:kitOne c.K (.type "tuple") T.at=some false
 lst:kitOne c.K (.type "list") T.at=some T.isL
 dct:kitOne c.K (.type "dict") T.at=some T.isD
 cls:∀k,ownC k=true→kitOne c.K (.ref k) T.at=some (T.isK k)
theorem VR.not_loader (h:VR c g.m v V):V≠ .builtin "__main__.__loader__#opaque":=by
 cases v with
 | none=>rw [show V= .none from h];nofun
 | bool b=>rw [show V= .bool b from h];nofun
 | inst k i=>exact h.rec fun _ _ _ _ e _ _ _ _ _=>e▸nofun
 | ref i=>exact h.elim fun _ h=>h.1▸nofun
 | dct i=>exact h.rec fun _ _ _ e _ _ _ _=>e▸nofun
 | tup i=>exact h.rec fun _ _ _ e _ _ _=>e▸nofun
 | lst i=>exact h.rec fun _ _ _ e _ _ _=>e▸nofun
 | _=>exact h.elim fun _ e=>e▸nofun
theorem sim_isInst {T:Ty}(hK:c.K.In g.s.heap)(ho:∀k,ownC k=true→OwnCl c.K k)(hT:TyOk c T)(hv:VR c g.m v V)(h:isInst T v g.H fun b=>Q (.bool b) g.H):Sm c φ (call (.builtin "isinstance") [V,T.at]) g (VN c Q) E:=fun R=>by
 have fin:∀ {t:Value}{b:Bool}{Hp:Heap→Prop},KitX c.K V t Hp→Hp g.s.heap→kitOne c.K t T.at=some b→Q (.bool b) g.H→wpAny (model c.prog c.w) φ.A (call (.builtin "isinstance") [V,T.at]) (fun b=>Nd c [] φ.X g (VN c Q b)) (fun e=>Nd c φ.l φ.X g (Xc φ g e E)) g.s:=
  fun {t b Hp} hk hh h1 q=>kia_one hk hK hh h1 hv.not_loader fun tk=>nd_tok R ⟨.bool b,rfl,q⟩
 have gen:Mine.deref v g.H (fun o=>Q (.bool (tyO T o)) g.H)→wpAny (model c.prog c.w) φ.A (call (.builtin "isinstance") [V,T.at]) (fun b=>Nd c [] φ.X g (VN c Q b)) (fun e=>Nd c φ.l φ.X g (Xc φ g e E)) g.s:=fun h=>by
  obtain ⟨a,o,ob,rfl,h1,h2,_,q⟩:=R.deref hv h
  cases o with
  | list xs=>obtain ⟨vs,n,rfl,_⟩:=h2;exact fin kitx_list ⟨_,h1,rfl⟩ hT.lst q
  | dict es=>obtain ⟨kvs,⟨es',ep,h6,_⟩,_⟩:=h2;exact fin kitx_dict ⟨_,h1,h6.1⟩ hT.dct q
 cases v with
 | none=>cases hv;exact fin kitx_none trivial hT.none h
 | bool b=>cases hv;exact fin kitx_bool trivial hT.bool h
 | int i=>obtain ⟨t,rfl⟩:=hv;exact fin kitx_int trivial hT.int h
 | str i=>obtain ⟨t,rfl⟩:=hv;exact fin kitx_str trivial hT.str h
 | bytes i=>obtain ⟨t,rfl⟩:=hv;exact fin kitx_bytes trivial hT.bytes h
 | tup i=>obtain ⟨a,vs,n,rfl,_,z,_⟩:=hv;exact fin kitx_tuple ⟨_,R.z _ _ z,rfl⟩ hT.tup h
 | inst k fs=>
  obtain ⟨a,d,o,kvs,rfl,hk,z,z',_,_⟩:=hv
  have O:=ho k hk
  exact fin (kitx_own O.get O.dct O.cls O.spec O.takes O.mro) (instAt (R.z _ _ z) (R.z _ _ z')) (hT.cls k hk) h
 | _=>exact gen h
end
end Mine
end
section
namespace Mine
open PySem PySem.W PySem.Calls PyProof.Rows PySem.SeqAt
theorem entry_unchain:entryFor table "proto.unchain"=some Builtin.«proto.unchain» :=entryFor_of_tree (by kernel_rfl)
theorem plain_unchain:plainId "proto.unchain"=true:=by decide +kernel
noncomputable def Hnd (A:Around)(h:Heap):Prop:=A.handled=none∨∃e o vs,A.handled=some (.ref e)∧h.get? e=some o∧o.data= .fields vs∧vs[2]?=some .none
theorem Hnd.mono {A:Around}{h h':Heap}(x:Hnd A h)(k:∀e o vs,A.handled=some (.ref e)→h.get? e=some o→o.data= .fields vs→h'.get? e=some o):Hnd A h':=by
 rcases x with x | ⟨e,o,vs,h1,h2,h3,h4⟩
 ·exact .inl x
 ·exact .inr ⟨e,o,vs,h1,k e o vs h1 h2 h3,h3,h4⟩
theorem Hnd.in1 {A:Around}{h:Heap}(x:Hnd A h):Hnd A.in1 h:=x
section
variable {prog:Program}{w:World}{A:Around}{s:Shared}{E:Value→Shared→Prop}
theorem raise_any {a:Addr}{o:Obj}{vs:Array Value}{α:Type}{Q:α→Shared→Prop}(hn:Hnd A s.heap)
  (ha:s.heap.get? a=some o) (hd:o.data= .fields vs) (h2:2 < vs.size) (hne:∀e,A.handled=some (.ref e)→a≠e)
  (h:∀h' o' vs',Heap.SameBut a s.heap h'→h'.get? a=some o'→o'.cls=o.cls→o'.data= .fields vs'→E (.ref a) {s with heap:=h'}):wpAny (model prog w) A (raiseNew (.ref a):Sem α) Q E s:=by
 simp only [raiseNew]
 refine wpAny_bind (wpAny_handled ?_)
 rcases hn with hn | ⟨e,oe,ve,h1,h3,h4,h5⟩
 ·rw [hn]
  refine wpAny_bind (wpAny_pure (wpAny_throw ?_))
  exact h s.heap o vs (Heap.SameBut.refl _ _) ha rfl hd
 ·rw [h1]
  dsimp only
  have hb:((Value.ref e) != (Value.ref a)) =true:=by
   rw [bne_iff_ne];intro q;cases q;exact hne _ h1 rfl
  rw [if_pos hb]
  refine wpAny_bind (wpAny_holding (wpAny_runValue (codeAny_builtin entry_unchain ?_)))
  unfold Builtin.«proto.unchain»
  refine wpAny_bind (wpAny_field h3 h4 h5 ?_)
  refine wpAny_ite_split (fun _=>?_) (fun hab=>absurd (by rfl) hab)
  refine wpAny_pure ?_
  show wpAny _ _ (updateField a 2 (Value.ref e) >>= _) _ _ s
  refine wpAny_bind ?_
  unfold updateField
  refine wpAny_bind (wpAny_load ha ?_)
  rw [hd]
  dsimp only
  rw [if_pos h2]
  refine wpAny_update ha ?_
  obtain ⟨c,dd,dt,sl⟩:=o
  simp only at hd
  subst hd
  exact wpAny_throw (h _ _ _ (Heap.SameBut.update ..) (Heap.get?_update_self _ ha rfl) rfl rfl)
theorem stop_any {α:Type}{Q:α→Shared→Prop}(hn:Hnd A s.heap)
  (h:∀h' e,(∀b o,s.heap.get? b=some o→h'.get? b=some o)→(∃o,h'.get? e=some o∧o.cls= .type "StopIteration")→E (.ref e) {s with heap:=h'}) :
  wpAny (model prog w) A (newExc (.type "StopIteration") [] >>= fun e=>(raiseNew e:Sem α)) Q E s:=by
 refine wpAny_bind ?_
 simp only [newExc,newTuple]
 refine wpAny_bind (wpAny_newObj_type ?_ (by size_fits))
 refine wpAny_bind (m:=firstArgMember _ _) (wpAny_of_eq (a:=Value.none) (by first | rfl | (simp only [firstArgMember];rfl)) ?_)
 refine wpAny_newObj_type ?_ (by size_fits)
 have old:∀(o1 o2:Obj) b o,s.heap.get? b=some o→((s.heap.push o1).push o2).get? b=some o:=fun o1 o2 b o e=>Heap.get?_push_of_some _ (Heap.get?_push_of_some _ e)
 refine raise_any (hn.mono fun e o vs _ e' _=>old _ _ _ _ e') (Heap.get?_push_size _ rfl) rfl (by simp;omega) (fun e he=>?_) fun h' o' vs' hs hg hc hd=>?_
 ·rcases hn with hn | ⟨e',o,vs,h1,h2,_⟩
  ·rw [hn] at he;cases he
  ·rw [h1] at he;cases he
   intro q
   have:=Heap.lt_size h2
   rw [← q,Heap.size_push] at this
   exact absurd this (Nat.not_lt.mpr (Nat.le_succ _))
 ·refine h h' _ (fun b o e=>?_) ⟨o',hg,hc⟩
  rw [hs.2 b (fun q=>?_)]
  ·exact old _ _ b o e
  ·have:=Heap.lt_size e
   rw [q,Heap.size_push] at this
   exact absurd this (Nat.not_lt.mpr (Nat.le_succ _))
theorem list_end {it l:Addr}{i:Nat}{items:Array Value}{Q:Option Value→Shared→Prop}(hh:Hnd A s.heap)(hi:∀e,A.handled=some (.ref e)→e≠it)
  (hit:s.heap.IsListIter it l i) (hl:s.heap.IsList l items) (hx:items[i]?=none)
  (hQ:∀h',Heap.ExtBut it s.heap h'→Q none {s with heap:=h'}):wpAny (model prog w) A (pyNext (.ref it)) Q E s:=by
 obtain ⟨o,ho,hc,hd⟩:=id hit
 obtain ⟨ol,hol,_,nl,hdl⟩:=hl
 unfold pyNext
 refine wpAny_bind (wpAny_attempt (wpAny_callSpecial?_slot (name:=Str.ofString "__next__") hit.typeIs slot_listiter_next
  (wpAny_call_entry slot_listiter_next hit.typeIs entry_listiter_next ?_ (args_listiter_next _))))
 show wpAny _ _ (field (.ref it) 0 >>= _) _ _ s
 refine wpAny_bind (wpAny_field ho hd (x:= .ref l) rfl ?_)
 refine wpAny_ite_split (fun hab=>by cases hab) fun _=>?_
 show wpAny _ _ (field (.ref it) 1 >>= _) _ _ s
 refine wpAny_bind (wpAny_field ho hd (x:= .int i 0) rfl ?_)
 show wpAny _ _ (seqItems? (.ref l) >>= _) _ _ s
 refine wpAny_bind (wpAny_seqItems hol hdl ?_)
 dsimp only
 rw [show items[(i:Int).toNat]?=none from hx]
 refine wpAny_bind (wpAny_rule (wpAny_bind (wpAny_setField ho hd (by simp) ?_)))
 have hs:=Heap.SameBut.update s.heap it (Obj.mapFields fun vs=>vs.setIfInBounds 0 Value.none)
 refine stop_any (A:=A.in1) (hh.mono fun e o vs he e' _=>(hs.2 e (hi e he)).trans e') fun h' e hk ho'=>?_
 obtain ⟨o',e1,e2⟩:=ho'
 refine wpAny_bind (wpAny_isInstance (T:="StopIteration") (b:=true) ⟨o',e1,e2⟩ isSubtype_stop ?_)
 exact wpAny_pure (hQ h' fun b o hb e=>hk b o ((hs.2 b hb).trans e))
theorem dict_end {K:Type} [DecidableEq K]{knd:KeyKind prog w K}{it d:Addr}{i ep:Nat}{kvs:List (K × Value)}{Q:Option Value→Shared→Prop}(hh:Hnd A s.heap)(hi:∀e,A.handled=some (.ref e)→e≠it)(hit:s.heap.IsKeyIter it d i kvs.length ep)
  (hm:s.heap.DictAt knd d kvs ep) (hx:kvs[i]?=none)
  (hQ:∀h',Heap.ExtBut it s.heap h'→Q none {s with heap:=h'}):wpAny (model prog w) A (pyNext (.ref it)) Q E s:=by
 obtain ⟨o,ho,hc,hd⟩:=id hit
 obtain ⟨od,es,hod,hcd,hdd,hk,hp,hn⟩:=id hm
 have hsz:es.size=kvs.length:=by rw [← hp.length];simp
 have hge:es.size≤i:=by rw [hsz];simpa using hx
 have hT:=hit.typeIs
 have hown:Builtin.Dict_items.ownsTuple "dict_keyiterator"=false:=by decide
 have hs:=Heap.SameBut.update s.heap it (Obj.mapFields fun vs=>vs.setIfInBounds 0 Value.none)
 unfold pyNext
 refine wpAny_bind (wpAny_attempt (wpAny_callSpecial?_slot (name:=Str.ofString "__next__") hT F.slot_dict_keyiterator_next
  (wpAny_call_entry F.slot_dict_keyiterator_next hT F.entry_dict_keyiterator_next ?_ (F.args_dict_keyiterator_next_1 _))))
 refine wpAny_bind (wpAny_pure (wpAny_bind (wpAny_bind ?_)))
 refine wpAny_bind (wpAny_typeNameOfWhole_keyiter hT (wpAny_pure ?_))
 refine wpAny_bind (wpAny_fieldsOf ho hd ?_)
 rw [hown]
 show wpAny _ _ (if (Value.ref d == Value.none) =true then _ else _) _ _ s
 refine wpAny_ite_split (fun hab=>by cases hab) fun _=>?_
 refine wpAny_bind (wpAny_pure (wpAny_bind (wpAny_dictEntries hod hdd ?_)))
 rw [if_neg (by rw [hsz];simp)]
 refine wpAny_bind (wpAny_pure (wpAny_bind (wpAny_dictEpoch hod hdd ?_)))
 rw [if_neg (by simp)]
 refine wpAny_pure ?_
 have hz:(if (i:Int) < 0 then none else es[(i:Int).toNat]?) =none:=(if_neg (Int.not_lt.mpr (Int.natCast_nonneg i))).trans (Array.getElem?_eq_none hge)
 dsimp only
 rw [hz]
 refine wpAny_bind (wpAny_bind (wpAny_typeNameOfWhole_keyiter hT (wpAny_pure ?_)))
 show wpAny _ _ (setField (.ref it) 0 .none >>= _) _ _ s
 refine wpAny_bind (wpAny_setField ho hd (by simp) ?_)
 refine stop_any (A:=A.in1) (hh.mono fun e o vs he e' _=>(hs.2 e (hi e he)).trans e') fun h' e hk ho'=>?_
 obtain ⟨o',e1,e2⟩:=ho'
 refine wpAny_bind (wpAny_isInstance (T:="StopIteration") (b:=true) ⟨o',e1,e2⟩ isSubtype_stop ?_)
 exact wpAny_pure (hQ h' fun b o hb e=>hk b o ((hs.2 b hb).trans e))
noncomputable def hndAddr (A:Around):List Addr:=match A.handled with | some (.ref e)=>[e] | _=>[]
theorem mem_hnd {A:Around}{e:Addr}(h:A.handled=some (.ref e)):e∈hndAddr A:=by unfold hndAddr;rw [h];exact .head _
theorem Hnd.at {h h':Heap}(x:Hnd A h)(k:∀e∈hndAddr A,∀o,h.get? e=some o→h'.get? e=some o):Hnd A h':=x.mono fun e o vs he e' _=>k e (mem_hnd he) o e'
theorem walks_list (I ax:Addr)(hne:ax≠I)(hi:I∉hndAddr A)(items:Array Value) :
  Walks prog w A I (I::ax::hndAddr A) [I] items.size (fun i v=>items[i]?=some v) (fun i h=>h.IsListIter I ax i∧h.IsList ax items∧Hnd A h) where
 sub:=fun b hb=>by simp at hb;simp [hb]
 frame:=fun _ _ _ st hk=>⟨st.1.at fun o e=>hk I (by simp) o e,st.2.1.at fun o e=>hk ax (by simp) o e,st.2.2.at fun e he o h=>hk e (by simp [he]) o h⟩
 item:=fun i s Q E hi' st hQ=>by
  refine wpAny_pyNext_list_item st.1 st.2.1 (x:=items[i]) (by simp [hi']) fun h' hit' hs'=>?_
  exact hQ _ h' s.toks (by simp [hi']) ⟨hit',st.2.1.extBut hs'.extBut hne,st.2.2.at fun e he o h=>hs'.extBut e o (fun q=>hi (q▸he)) h⟩ fun b o hb e=>hs'.extBut b o (fun h=>hb (by simp [h])) e
 done:=fun s Q E st hQ=>list_end st.2.2 (fun e he q=>hi (q▸mem_hnd he)) st.1 st.2.1 (by simp) fun h' he'=>hQ h' s.toks fun b o hb e=>he' b o (fun h=>hb (by simp [h])) e
 self:=fun _ _ _ _ st hQ=>wpAny_pyIter_listiter st.1 hQ
theorem walks_dict {K:Type} [DecidableEq K]{knd:KeyKind prog w K}(I d:Addr)(hne:d≠I)(hi:I∉hndAddr A)(kvs:List (K × Value))(ep:Nat) :
  Walks prog w A I (I::d::hndAddr A) [I] kvs.length (fun i v=>∃k x,kvs[i]?=some (k,x)∧knd.is k v=true) (fun i h=>h.IsKeyIter I d i kvs.length ep∧h.DictAt knd d kvs ep∧Hnd A h) where
 sub:=fun b hb=>by simp at hb;simp [hb]
 frame:=fun _ _ _ st hk=>⟨st.1.at fun o e=>hk I (by simp) o e,st.2.1.at' fun o e=>hk d (by simp) o e,st.2.2.at fun e he o h=>hk e (by simp [he]) o h⟩
 item:=fun i s Q E hi' st hQ=>by
  obtain ⟨⟨k,x⟩,hx⟩:∃p,kvs[i]?=some p:=⟨kvs[i],by simp [hi']⟩
  refine wpAny_pyNext_dict_item st.1 st.2.1 hx fun key h' hkey hit' hs'=>?_
  exact hQ key h' s.toks ⟨k,x,hx,hkey⟩ ⟨hit',st.2.1.extBut hs'.extBut hne,st.2.2.at fun e he o h=>hs'.extBut e o (fun q=>hi (q▸he)) h⟩ fun b o hb e=>hs'.extBut b o (fun h=>hb (by simp [h])) e
 done:=fun s Q E st hQ=>dict_end st.2.2 (fun e he q=>hi (q▸mem_hnd he)) st.1 st.2.1 (by simp) fun h' he'=>hQ h' s.toks fun b o hb e=>he' b o (fun h=>hb (by simp [h])) e
 self:=fun _ _ _ _ st hQ=>wpAny_pyIter_keyiter st.1 hQ
end
section
variable {α:Type}{le:α→α→Bool}
theorem insBy_perm (x:α)(l:List α):(insBy le x l).Perm (x::l):=by
 induction l with
 | nil=>exact .refl _
 | cons y ys ih=>
  unfold insBy
  cases le x y with
  | true=>exact .refl _
  | false=>exact (ih.cons y).trans (.swap x y ys)
theorem sortBy_perm (l:List α):(sortBy le l).Perm l:=by
 induction l with
 | nil=>exact .refl _
 | cons x xs ih=>exact (insBy_perm x _).trans (ih.cons x)
theorem insBy_sorted (tr:∀a b c,le a b=true→le b c=true→le a c=true)(tot:∀a b,le a b=false→le b a=true)(x:α)(l:List α)(h:l.Pairwise fun a b=>le a b=true):(insBy le x l).Pairwise fun a b=>le a b=true:=by
 induction l with
 | nil=>exact List.pairwise_cons.mpr ⟨nofun, .nil⟩
 | cons y ys ih=>
  have h':=List.pairwise_cons.mp h
  unfold insBy
  cases q:le x y with
  | true=>exact List.pairwise_cons.mpr ⟨fun z hz=>(List.mem_cons.mp hz).elim (fun e=>e▸q) fun hz=>tr _ _ _ q (h'.1 z hz),h⟩
  | false=>exact List.pairwise_cons.mpr ⟨fun z hz=>(List.mem_cons.mp ((insBy_perm x ys).mem_iff.mp hz)).elim (fun e=>e▸tot _ _ q) (h'.1 z),ih h'.2⟩
theorem sortBy_eq (tr:∀a b c,le a b=true→le b c=true→le a c=true)(tot:∀a b,le a b=false→le b a=true)(anti:∀a b,le a b=true→le b a=true→a=b){l l':List α}(p:l'.Perm l)(h:l'.Pairwise fun a b=>le a b=true):l'=sortBy le l:=
 have s:∀l:List α,(sortBy le l).Pairwise fun a b=>le a b=true:=fun l=>by
  induction l with
  | nil=>exact .nil
  | cons x xs ih=>exact insBy_sorted tr tot x _ ih
 List.Perm.eq_of_pairwise (fun a b _ _ h1 h2=>anti a b h1 h2) h (s l) (p.trans (sortBy_perm l).symm)
end
theorem sortInt_eq {l l':List Int}(p:l'.Perm l)(h:l'.Pairwise (· ≤ ·)):l'=sortBy intLe l:=
 sortBy_eq (le:=intLe) (fun a b c h h'=>decide_eq_true (Int.le_trans (of_decide_eq_true h) (of_decide_eq_true h'))) (fun a b h=>decide_eq_true (Int.le_of_lt (Int.not_le.mp (of_decide_eq_false h)))) (fun a b h h'=>Int.le_antisymm (of_decide_eq_true h) (of_decide_eq_true h')) p (h.imp fun h=>decide_eq_true h)
theorem sortStr_eq {l l':List Str}(p:l'.Perm l)(h:l'.Pairwise fun a b=>strLe a b=true):l'=sortBy strLe l:=
 sortBy_eq (le:=strLe) (fun a b c h h'=>decide_eq_true (List.le_trans (of_decide_eq_true h) (of_decide_eq_true h'))) (fun a b h=>decide_eq_true ((List.le_total a.cps.toList b.cps.toList).resolve_left (of_decide_eq_false h))) (fun a b h h'=>congrArg Str.mk (Array.toList_inj.mp (List.le_antisymm (of_decide_eq_true h) (of_decide_eq_true h')))) p h
theorem rising_sorted (l:List Str):∀p:Str,risingS p l=true→(p::l).Pairwise fun a b=>strLe a b=true:=by
 induction l with
 | nil=>exact fun p _=>List.pairwise_cons.mpr ⟨nofun, .nil⟩
 | cons x r ih=>
  intro p h
  have h:(!Spec.ltCps x.cps.toList p.cps.toList && risingS x r) =true:=h
  rw [Bool.and_eq_true,ltCps_eq,Bool.not_eq_true',decide_eq_false_iff_not] at h
  have h1:strLe p x=true:=decide_eq_true (List.not_lt.mp h.1)
  have ih:=ih x h.2
  exact List.pairwise_cons.mpr ⟨fun z hz=>(List.mem_cons.mp hz).elim (fun e=>e▸h1) fun hz=>decide_eq_true (List.le_trans (of_decide_eq_true h1) (of_decide_eq_true ((List.pairwise_cons.mp ih).1 z hz))),ih⟩
theorem sortedS_sorted (l:List Str)(h:sortedS l=true):l.Pairwise fun a b=>strLe a b=true:=by
 cases l with
 | nil=>exact .nil
 | cons x r=>exact rising_sorted r x h
section
variable {prog:Program}{w:World}{A:Around}{E:Value→Shared→Prop}{s:Shared}
theorem hnd_lt {h:Heap}(x:Hnd A h){e:Addr}(he:e∈hndAddr A):e < h.objs.size:=by
 rcases x with x | ⟨e',o,vs,h1,h2,_⟩
 ·unfold hndAddr at he;rw [x] at he;cases he
 ·unfold hndAddr at he;rw [h1] at he
  rw [List.mem_singleton.mp he];exact Heap.lt_size h2
theorem extend_dict {R:Result→Shared→Prop}{d S:Addr}{kvs:List (Key × Value)}{ep c₀:Nat}(hh:Hnd A s.heap)(lo:(d == sysModules) =false)(hm:s.heap.DictAt (mixKind prog w) d kvs ep)(hn:kvs.length≤sizeLine)
  (hdS:S≠d) (hnS:S∉hndAddr A) (hS:s.heap.get? S=some {cls:= .type "list",data:= .seq #[] c₀})
  (hR:∀(h':Heap) (tk:Nat) (acc:Array Value) (c:Nat),(∀b o,b≠S→s.heap.get? b=some o→h'.get? b=some o)→h'.get? S=some {cls:= .type "list",dict:=none,data:= .seq acc c,slots:= #[]}→
   ItemsOf (fun i v=>∃k x,kvs[i]?=some (k,x)∧(mixKind prog w).is k v=true) acc kvs.length→R (.ok (.ret (.ref S))) {s with heap:=h',toks:=tk}) :
  wpAny (model prog w) A.in1 (Builtin.List.listExtendWith (.ref S) (.ref d) (.ref S))
   (fun fin s'=>match fin with | .done f=>R (.ok f) s' | .again c'=>c'.quiet=true∧codeAny (model prog w) A c' R s') (fun e s'=>R (.error e) s') s:=by
 have hSz:=Heap.lt_size hS
 have W:=walks_dict (prog:=prog) (w:=w) (A:=A.in1) (knd:=mixKind prog w) s.heap.objs.size d (Nat.ne_of_lt hm.lt_size) (fun he=>absurd (hnd_lt (A:=A) hh he) (Nat.lt_irrefl _)) kvs ep
 have hSI:S≠s.heap.objs.size:=Nat.ne_of_lt hSz
 have hSf:S∉(s.heap.objs.size::d::hndAddr A.in1):=by
  simp only [List.mem_cons,not_or]
  exact ⟨hSI,hdS,hnS⟩
 generalize hit:({cls:= .type "dict_keyiterator",data:= .fields #[.ref d, .int 0 0, .int kvs.length 0, .int ep 0]}:Obj) =oI
 have st:(s.heap.push oI).IsKeyIter s.heap.objs.size d 0 kvs.length ep∧(s.heap.push oI).DictAt (mixKind prog w) d kvs ep∧Hnd A.in1 (s.heap.push oI):=
  ⟨⟨_,Heap.get?_push_size _ (by rw [← hit];rfl),by rw [← hit],by rw [← hit];rfl⟩,hm.push _,hh.mono fun e o vs _ e' _=>Heap.get?_push_of_some _ e'⟩
 have key:∀(h:Heap) (c₁ tk:Nat),(∀b o,b≠S→(s.heap.push oI).get? b=some o→h.get? b=some o)→
   h.get? S=some {cls:= .type "list",data:= .seq #[] c₁}→codeAny (model prog w) A (.builtin "list.extend.loop" ⟨[.ref S, .ref s.heap.objs.size, .ref S],[]⟩) R {s with heap:=h,toks:=tk}:=by
  intro h c₁ tk hk hS₁
  refine codeAny_extend_loopS W.toS hn S hSf (.ref S) kvs.length 0 _ #[] c₁ rfl (Nat.zero_le _) (W.frame 0 _ h st fun b hb o e=>hk b o (fun q=>hSf (q▸hb)) e) hS₁ (ItemsOf.nil _) fun s' acc' c' hm' hS' hacc=>?_
  rw [Moved.eq_with hm']
  refine hR s'.heap s'.toks acc' c' (fun b o hb e=>hm'.heap b o (fun hmem=>?_) (hk b o hb (Heap.get?_push_of_some _ e))) hS' hacc
  rcases List.mem_cons.mp hmem with e' | hmem
  ·exact hb e'
  ·exact absurd (Heap.lt_size e) (by rw [List.mem_singleton.mp hmem];exact Nat.lt_irrefl _)
 have hT:s.TypeIs (.ref d) "dict":=hm.dictOf.typeIs
 unfold Builtin.List.listExtendWith
 refine wpAny_bind (wpAny_typeOf (T:="dict") hT ?_)
 have h1:Builtin.List.listSameRef (.ref S) (.ref d) =false:=by simp [Builtin.List.listSameRef,hdS]
 have nl:(Value.type "dict" == Value.type "list") =false:=by decide
 have nt:(Value.type "dict" == Value.type "tuple") =false:=by decide
 simp only [h1,nl,nt,Bool.or_false,Bool.false_eq_true,if_false]
 refine wpAny_bind (wpAny_pyIter_dict lo hm ?_)
 rw [hit]
 have hS₁:=Heap.get?_push_of_some oI hS
 refine wpAny_bind (wpAny_holding (kdl_hint_dict st.2.1.dictOf.typeIs ?_))
 refine wpAny_ite_split (fun _=>?_) (fun _=>wpAny_pure ⟨plainId_quiet PySem.F.plain_extend_loop _,key _ c₀ _ (fun b o _ e=>e) hS₁⟩)
 refine wpAny_bind (wpAny_rule (wpAny_bind ?_))
 show wpAny _ _ (updateSeq S (·.push .none) >>= fun _=>updateSeq S (·.pop)) _ _ _
 refine wpAny_bind (wpAny_updateSeq hS₁ rfl ?_)
 have hS₂:=Heap.get?_update_self (Obj.mapSeq (·.push Value.none)) hS₁ rfl
 refine wpAny_updateSeq (hz:=by seq_fits) hS₂ rfl ?_
 have hS₃:=Heap.get?_update_self (Obj.mapSeq (·.pop)) hS₂ rfl
 exact wpAny_pure ⟨plainId_quiet PySem.F.plain_extend_loop _,key _ _ _ (fun b o hb e=>(Heap.get?_update_other _ _ (Ne.symm hb)).trans ((Heap.get?_update_other _ _ (Ne.symm hb)).trans e)) hS₃⟩
theorem collect_dict {R:List Value→Shared→Prop}{d:Addr}{kvs:List (Key × Value)}{ep:Nat}(hh:Hnd A s.heap)(lo:(d == sysModules) =false)(hm:s.heap.DictAt (mixKind prog w) d kvs ep)(hn:kvs.length≤sizeLine)
  (h:∀(h':Heap) (tk:Nat) (acc:Array Value),(∀b o,s.heap.get? b=some o→h'.get? b=some o)→ItemsOf (fun i v=>∃k x,kvs[i]?=some (k,x)∧(mixKind prog w).is k v=true) acc kvs.length→R acc.toList {s with heap:=h',toks:=tk}) :
  wpAny (model prog w) A (collect (.ref d)) R E s:=by
 have hlt:=hm.lt_size
 unfold collect
 refine wpAny_bind (wpAny_runValue (codeAny_builtin entry_proto_collect' ?_))
 rw [Around.under_plainId PySem.F.plain_proto_collect _]
 show wpAny _ A.in1 (newList [] >>= fun l=>again (.builtin "list.__iadd__" ⟨[l, .ref d],[]⟩)) _ _ s
 refine wpAny_bind (wpAny_newObj_type (wpAny_pure ⟨plainId_quiet PySem.F.plain_list_iadd _,codeAny_builtin entry_list_iadd' ?_⟩))
 rw [Around.under_plainId PySem.F.plain_list_iadd _]
 have key:=extend_dict (A:=A) (s:={s with heap:=s.heap.push {cls:= .type "list",data:= .seq ([]:List Value).toArray}})
  (R:=fun (q:Result) (s':Shared)=>∃(h':Heap) (tk:Nat) (acc':Array Value) (c':Nat),q= .ok (.ret (.ref s.heap.objs.size))∧s'= {s with heap:=h',toks:=tk}∧
   (∀b o,s.heap.get? b=some o→h'.get? b=some o)∧h'.get? s.heap.objs.size=some {cls:= .type "list",dict:=none,data:= .seq acc' c',slots:= #[]}∧ItemsOf (fun i v=>∃k x,kvs[i]?=some (k,x)∧(mixKind prog w).is k v=true) acc' kvs.length)
  (hh.mono fun e o vs _ e' _=>Heap.get?_push_of_some _ e') lo (hm.push _) hn (S:=s.heap.objs.size) (Nat.ne_of_gt hlt) (fun he=>absurd (hnd_lt hh he) (Nat.lt_irrefl _)) (c₀:=0) (Heap.get?_push_size _ rfl)
  (fun h' tk acc' c' hk hS' hacc=>⟨h',tk,acc',c',rfl,rfl,fun b o e=>hk b o (Nat.ne_of_lt (Heap.lt_size e)) (Heap.get?_push_of_some _ e),hS',hacc⟩)
 show wpAny _ A.in1 (Builtin.List.listExtendWith (.ref s.heap.objs.size) (.ref d) (.ref s.heap.objs.size)) _ _ _
 refine wpAny_mono key (fun fin s' x=>?_) fun e s' x=>?_
 ·cases fin with
  | done f=>
   obtain ⟨h',tk,acc',c',e,rfl,hk,hS',hacc⟩:=x
   cases e
   exact wpAny_bind (wpAny_load hS' (wpAny_pure (h h' tk acc' hk hacc)))
  | again c₁=>
   refine ⟨x.1,codeAny_mono x.2 fun q s₂ y=>?_⟩
   obtain ⟨h',tk,acc',c',rfl,rfl,hk,hS',hacc⟩:=y
   exact wpAny_bind (wpAny_load hS' (wpAny_pure (h h' tk acc' hk hacc)))
 ·obtain ⟨_,_,_,_,e',_⟩:=x
  cases e'
theorem sortedHeap_keep {h:Heap}{a b:Addr}{vs:List Value}{out:Array Value}{o:Obj}(hb:b≠a)(e:h.get? b=some o):(sortedHeap h a vs out).get? b=some o:=by
 unfold sortedHeap
 rw [Heap.get?_update_ne _ _ _ _ hb]
 exact Heap.get?_push_of_some _ (Heap.get?_push_of_some _ ((Heap.get?_update_ne _ _ _ _ hb).trans e))
theorem sortedHeap_here {h:Heap}{a:Addr}{vs:List Value}{out:Array Value}{its:Array Value}{n:Nat}(e:h.get? a=some (seqObj "list" its n)):∃k,(sortedHeap h a vs out).get? a=some (seqObj "list" out k):=by
 unfold sortedHeap
 have h1:=Heap.get?_update_self (Obj.mapSeq fun _=>(#[]:Array Value)) e rfl
 have h2:=Heap.get?_push_of_some (seqObj "list" #[] 0) (Heap.get?_push_of_some (seqObj "tuple" vs.toArray 0) h1)
 have h3:=Heap.get?_update_self (Obj.mapSeq fun _=>out) h2 rfl
 exact ⟨_,h3⟩
inductive Sortd (vs:List Value):List MV→Prop
 | num {ns:List Int}:IntsAre vs ns→Sortd vs ((sortBy intLe ns).map .int)
 | txt {ns:List Str}:StrsAre vs ns→Sortd vs ((sortBy strLe ns).map .str)
theorem ints_vrs {c:Wo}{m:Mp}{vs:List Value}{ns:List Int}(h:IntsAre vs ns):VRs c m (ns.map .int) vs:=by
 induction h with
 | nil=>exact rfl
 | cons n t _ ih=>exact ⟨_,_,rfl,⟨t,rfl⟩,ih⟩
theorem strs_vrs {c:Wo}{m:Mp}{vs:List Value}{ns:List Str}(h:StrsAre vs ns):VRs c m (ns.map .str) vs:=by
 induction h with
 | nil=>exact rfl
 | cons n t _ ih=>exact ⟨_,_,rfl,⟨t,rfl⟩,ih⟩
theorem sort_tail {vs:List Value}{ms:List MV}{Q:Value→Shared→Prop}{D:Addr}(hD:s.heap.get? D=some (seqObj "list" vs.toArray 0))(hS:Sortd vs ms)(h64:vs.length < 64)
  (h:∀h' vs' k,(∀b o,b≠D→s.heap.get? b=some o→h'.get? b=some o)→h'.get? D=some (seqObj "list" (List.toArray vs') k)→(∀(c:Wo) (m:Mp),VRs c m ms vs')→Q .none {s with heap:=h'}) :
  wpAny (model prog w) A (call (.builtin "list.sort") [.ref D]) Q E s:=by
 cases hS with
 | @num ns hI=>
  refine wpAny_call_entry slot_list_sort ⟨_,hD,rfl⟩ entry_list_sort (list_sort_tree hD hI h64 fun out ns' a1 a2 a3=>⟨_,rfl,?_⟩) (args_list_sort _)
  obtain ⟨k,hk⟩:=sortedHeap_here (vs:=vs) (out:=out) hD
  have e:ns'=sortBy intLe ns:=sortInt_eq a2 a3
  exact h _ out.toList k (fun b o hb e=>sortedHeap_keep hb e) (by rw [hk]) fun c m=>by rw [← e];exact ints_vrs a1
 | @txt ss hS=>
  refine wpAny_call_entry slot_list_sort ⟨_,hD,rfl⟩ entry_list_sort (list_sort_treeK strKind_oneLt hD hS.keysOf (fun v₁ v₂ rest e=>keyKind_strs (by rw [← e];exact hS)) h64 fun st' hp hs=>⟨_,rfl,?_⟩) (args_list_sort _)
  obtain ⟨ss',h1,h2,h3⟩:=sorted_out_str hS hp hs
  obtain ⟨k,hk⟩:=sortedHeap_here (vs:=vs) (out:=(arrOf st').map (·.2)) hD
  have e:ss'=sortBy strLe ss:=sortStr_eq h2 (sortedS_sorted _ h3)
  exact h _ ((arrOf st').map (·.2)).toList k (fun b o hb e=>sortedHeap_keep hb e) (by rw [hk]) fun c m=>by rw [← e];exact strs_vrs h1
theorem sorted_of {v:Value}{ms:List MV}{Q:Value→Shared→Prop}
  (hc:∀R:List Value→Shared→Prop,(∀h' tk vs,(∀b o,s.heap.get? b=some o→h'.get? b=some o)→Sortd vs ms→vs.length < 64→R vs {s with heap:=h',toks:=tk})→wpAny (model prog w) A.in1 (collect v) R E s)
  (h:∀h' tk D vs' k,(∀b o,s.heap.get? b=some o→h'.get? b=some o)→s.heap.get? D=none→h'.get? D=some {cls:= .type "list",data:= .seq (List.toArray vs') k}→(∀(c:Wo) (m:Mp),VRs c m ms vs')→Q (.ref D) {s with heap:=h',toks:=tk}) :
  wpAny (model prog w) A (call (.builtin "sorted") [v]) Q E s:=by
 refine Calls.call_function_entry kind_sorted plain_sorted entry_sorted (args_sorted1 _) ?_
 unfold Builtin.«sorted»
 refine wpAny_bind (m:=checkCount "sorted" 1 1 _) (wpAny_pure ?_)
 refine wpAny_bind (hc _ fun h₁ tk vs hk hS h64=>?_)
 refine wpAny_bind (wpAny_newList ?_ (by rw [sizeLine_eq];omega))
 have hD:(h₁.push (seqObj "list" vs.toArray 0)).get? h₁.objs.size=some (seqObj "list" vs.toArray 0):=Heap.get?_push_size _ rfl
 refine wpAny_bind (wpAny_holding (sort_tail (s:={s with heap:=h₁.push (seqObj "list" vs.toArray 0),toks:=tk}) hD hS h64 fun h' vs' k hk' hg hv=>wpAny_pure ⟨_,rfl,?_⟩))
 refine h h' tk _ vs' k (fun b o e=>hk' b o (Nat.ne_of_lt (Heap.lt_size (hk b o e))) (Heap.get?_push_of_some _ (hk b o e))) ?_ hg hv
 cases q:s.heap.get? h₁.objs.size with
 | none=>rfl
 | some o=>exact absurd (Heap.lt_size (hk _ _ q)) (Nat.lt_irrefl _)
theorem mapSeq_list (f:Array Value→Array Value)(vs:Array Value)(k:Nat):∃k',(Obj.mapSeq f {cls:= .type "list",data:= .seq vs k:Obj}) = {cls:= .type "list",data:= .seq (f vs) k'}:=⟨_,rfl⟩
theorem erase_at (v:Value)(vs:List Value):(v::vs).toArray.eraseIdxIfInBounds 0=vs.toArray:=by simp [Array.eraseIdxIfInBounds]
theorem erase_last (vs:List Value)(v:Value):(vs ++ [v]).toArray.eraseIdxIfInBounds ((vs ++ [v]).toArray.size - 1) =vs.toArray:=by
 have h:(vs ++ [v]).toArray.size - 1=vs.length:=by simp
 rw [h]
 have h2:vs.length < (vs ++ [v]).toArray.size:=by simp
 unfold Array.eraseIdxIfInBounds
 rw [dif_pos h2]
 apply Array.toList_inj.mp
 simp only [Array.toList_eraseIdx]
 rw [List.eraseIdx_append_of_length_le (Nat.le_refl _),Nat.sub_self]
 simp
theorem sub_bytes_tuple':isSubtype (.type "bytes") (.type "tuple") =pure false:=by rw [isSubtype_type];kernel_rfl
theorem starts_eq (b p:Array UInt8)(t u:Tok):Builtin.«bytes.startswith» ⟨[.bytes b t, .bytes p u],[]⟩ =
   ret (.bool (if ((b.size:Int) - 0 < p.size) then false else b.extract 0 (0+p.size) == p)):=by
 unfold Builtin.«bytes.startswith» Builtin.Bytes.tailMatchM
 have e1:∀id:String,selfAndSome id "startswith" 1 3 ⟨[.bytes b t, .bytes p u],[]⟩ =pure (.bytes b t,[.bytes p u]):=fun id=>rfl
 have e2:isInstance (.bytes p u) (.type "tuple") =pure false:=by
  have e:isInstance (.bytes p u) (.type "tuple") =isSubtype (.type "bytes") (.type "tuple"):=rfl
  rw [e,sub_bytes_tuple']
 have e3:Builtin.Bytes.payload (.bytes b t) =pure b:=rfl
 have e4:Builtin.Bytes.bound? none=pure none:=rfl
 have e5:∀id,Builtin.Bytes.buffer? id (.bytes p u) =pure (some p):=fun id=>KBy.buffer_eq
 have e6:Builtin.Bytes.window b.size none none= (0,(b.size:Int)):=by
  have h:¬ ((b.size:Int) < 0):=by omega
  simp [Builtin.Bytes.window,h]
 simp only [e1,pure_bind,List.getElem?_cons_succ,List.getElem?_nil,e4,e3,e6,List.headD_cons,e2,e5,Bool.false_eq_true,if_false]
 rfl
theorem starts_prefix (b p:List UInt8):(if ((b.toArray.size:Int) - 0 < p.toArray.size) then false else b.toArray.extract 0 (0+p.toArray.size) == p.toArray) =p.isPrefixOf b:=by
 rw [Bool.eq_iff_iff,List.isPrefixOf_iff_prefix,List.prefix_iff_eq_take]
 simp only [List.size_toArray,Nat.zero_add]
 constructor
 ·intro h
  split at h
  ·cases h
  ·have:=eq_of_beq h
   have h2:=congrArg Array.toList this
   simpa using h2.symm
 ·intro h
  have hl:p.length≤b.length:=by rw [h,List.length_take];omega
  rw [if_neg (by omega)]
  rw [beq_iff_eq]
  apply Array.toList_inj.mp
  simpa using h.symm
theorem bytes_has_bytes:typeLookup (.type "bytes") "__bytes__"=pure (some (.builtin "bytes.__bytes__")):=by rw [typeLookup_type,builtinLookup_eq_fast];kernel_rfl
theorem bytes_new_same {b:Array UInt8}{t:Tok}{E:Value→Shared→Prop}{Q:Value→Shared→Prop}(hQ:Q (.bytes b t) s):codeAny (model prog w) A (.call (.builtin "bytes.__new__") ⟨[.type "bytes", .bytes b t],[]⟩) (wants Q E) s:=by
 refine codeAny_of_tree ?_
 show wpAny _ A.in1 (do checkBuiltinCall "bytes.__new__" ⟨[.type "bytes", .bytes b t],[]⟩;again (.builtin "bytes.__new__" ⟨[.type "bytes", .bytes b t],[]⟩)) _ _ s
 refine wpAny_bind (wpAny_of_eq (F.bm_newCall _) (wpAny_pure ⟨plainId_quiet F.bm_plain _,codeAny_builtin F.bm_entry ?_⟩))
 rw [Around.under_plainId F.bm_plain _]
 have hT:s.TypeIs (.bytes b t) "bytes":=PySem.W.typeIs_bytes _ _ _
 unfold Builtin.«bytes.__new__»
 refine wpAny_bind (wpAny_of_eq (a:=true) rfl ?_)
 refine bm_if_false rfl ?_
 refine wpAny_bind (wpAny_of_eq F.bm_sub ?_)
 refine bm_if_false rfl ?_
 refine wpAny_bind (wpAny_of_eq (F.bm_bind _) ?_)
 refine wpAny_bind (wpAny_of_eq (a:=()) rfl ?_)
 refine wpAny_bind (wpAny_of_eq (a:=()) rfl ?_)
 refine bm_if_false rfl ?_
 refine wpAny_bind (wpAny_specialOf hT bytes_has_bytes ?_)
 refine wpAny_bind (wpAny_rule ?_)
 refine wpAny_bind (wpAny_of_eq (a:= .type "bytes") rfl ?_)
 refine bm_if_true rfl ?_
 exact wpAny_pure hQ
theorem call_bytes_bytes {b:Array UInt8}{t:Tok}{E:Value→Shared→Prop}{Q:Value→Shared→Prop}(hQ:Q (.bytes b t) s):wpAny (model prog w) A (call (.type "bytes") [.bytes b t]) Q E s:=by
 refine callType_codes (Q₁:=fun obj s₁=>s₁.TypeIs obj "bytes"∧Q obj s₁) F.bm_called (F.bm_typeCall _) F.entry_object_init
  (bytes_new_same ⟨PySem.W.typeIs_bytes _ _ _,hQ⟩) fun obj s₁ h₁=>?_
 exact ⟨h₁.1,F.args_object_init_2 obj _,object_init_meets F.bm_called.init.lookup F.bm_called.made (by decide) prog w A.in1 _ s₁ ⟨h₁.1,rfl,h₁.2⟩⟩
theorem list_no_keys:typeLookup (.type "list") "keys"=pure none:=by rw [typeLookup_type,builtinLookup_eq_fast];kernel_rfl
theorem keys_of_list {a:Addr}{xs:Array Value}{k:Nat}{Q:Option Value→Shared→Prop}(hx:s.heap.get? a=some {cls:= .type "list",data:= .seq xs k})(hA:A.handled=none)
  (h:∀h' tk,(∀b o,s.heap.get? b=some o→h'.get? b=some o)→Q none {s with heap:=h',toks:=tk}):wpAny (model prog w) A (getAttr? (.ref a) "keys") Q E s:=by
 obtain ⟨hp,g,d,tk,os⟩:=s
 have hT:∀tk',(⟨hp,g,d,tk',os⟩:Shared).TypeIs (.ref a) "list":=fun _=>⟨_,hx,rfl⟩
 have f1:=sub_AttributeError
 have f3:=F.slot_list_getattribute.lookup
 have f4:=F.slot_list_getattribute.bind (.ref a)
 have f5:=am_list_getattr_none
 have hname:(["__module__","__name__","__qualname__","__doc__","__annotations__"]:List Str).contains ("keys":Str) =false:=by decide +kernel
 have hsz:("keys":Str).length+100≤sizeLine:=by rw [sizeLine_eq];decide
 unfold getAttr? getAttrBy? getAttrBy
 repeat (any_goals (first | assumption | exact hT _ | ((with_reducible show wpAny _ _ (call (Value.builtin "list.__getattribute__") _ _) _ _ _);refine call_meets F.slot_list_getattribute (hT _) am_entry_list_getattribute (F.args_list_getattribute_2 _ _) (meets_getattribute_miss_list a xs k #[] "keys" _ list_no_keys hname hsz) ⟨hx,hA,fun h' tk' e hx'=>?_⟩) | wp_step))
 obtain ⟨t',u',he⟩:=hx'.there
 show wpAny _ _ (getattributeRaised _ _ _ _ _ _ _) _ _ _
 unfold getattributeRaised
 repeat (any_goals (first | assumption | wp_step))
 exact h _ _ hx'.keeps
theorem entry_update_loop:entryFor table "dict.update.loop"=some Builtin.«dict.update.loop» :=entryFor_of_tree (by kernel_rfl)
theorem plain_update_loop:plainId "dict.update.loop"=true:=by decide +kernel
noncomputable def PairsAt (h:Heap)(prog:Program)(w:World)(items:Array Value)(ps:List (Key × Value))(no:List Addr):Prop:=
 ps.length=items.size∧∀(j:Nat) (k:Key) (V:Value),ps[j]?=some (k,V)→∃(t:Addr) (K:Value) (n:Nat),items[j]?=some (Value.ref t)∧h.get? t=some {cls:= .type "tuple",data:= .seq #[K,V] n}∧(mixKind prog w).is k K=true∧t∉no
theorem pairs_loop {R:Result→Shared→Prop}{l I D:Addr}{items:Array Value}{ps:List (Key × Value)}(hA:A.handled=none)(h1:D≠I)(h2:D≠l)(h3:l≠I) :
  ∀(n i:Nat) (s:Shared) (acc:List (Key × Value)),items.size - i=n→i≤items.size→s.heap.IsListIter I l i→s.heap.IsList l items→s.heap.DictOf (mixKind prog w) D acc→PairsAt s.heap prog w items ps [I,D]→
   acc.length+n≤sizeLine→(∀h' tk,(∀b o,b≠I→b≠D→s.heap.get? b=some o→h'.get? b=some o)→h'.DictOf (mixKind prog w) D (merged acc (ps.drop i))→R (.ok (.ret .none)) {s with heap:=h',toks:=tk})→
   codeAny (model prog w) A (.builtin "dict.update.loop" ⟨[.ref D, .ref I,rawInt i, .none],[]⟩) R s:=by
 intro n
 induction n with
 | zero=>
  intro i s acc hn hi hit hl hd hp hsz hR
  refine codeAny_builtin entry_update_loop ?_
  rw [Around.under_plainId plain_update_loop _]
  have hx:items[i]?=none:=Array.getElem?_eq_none (Nat.sub_eq_zero_iff_le.mp hn)
  unfold Builtin.«dict.update.loop»
  show wpAny _ _ (pyNext (.ref I) >>= _) _ _ s
  refine wpAny_bind (wpAny_pyNext_list_end hA hit hl hx fun h' hb=>?_)
  show wpAny _ _ (Builtin.Dict.addKeywords D [] >>= fun _=>ret .none) _ _ _
  unfold Builtin.Dict.addKeywords
  refine wpAny_bind (wpAny_pure (wpAny_pure ?_))
  refine hR h' s.toks (fun b o hb' _ e=>hb b o hb' e) ?_
  have e:ps.drop i= []:=by rw [List.drop_eq_nil_iff,hp.1];exact Nat.sub_eq_zero_iff_le.mp hn
  rw [e]
  obtain ⟨o,es,ep,ho,r⟩:=hd
  exact ⟨o,es,ep,hb D o h1 ho,r⟩
 | succ n ih=>
  intro i s acc hn hi hit hl hd hp hsz hR
  refine codeAny_builtin entry_update_loop ?_
  rw [Around.under_plainId plain_update_loop _]
  have hlt:i < items.size:=Nat.lt_of_sub_pos (hn▸Nat.succ_pos n)
  obtain ⟨k,V,hk'⟩:∃k V,ps[i]?=some (k,V):=⟨(ps[i]'(hp.1▸hlt)).1,(ps[i]'(hp.1▸hlt)).2,List.getElem?_eq_getElem (hp.1▸hlt)⟩
  obtain ⟨t,K,m,e1,e2,e3,e4⟩:=hp.2 i k V hk'
  have htI:t≠I:=fun q=>e4 (by simp [q])
  have htD:t≠D:=fun q=>e4 (by simp [q])
  unfold Builtin.«dict.update.loop»
  show wpAny _ _ (pyNext (.ref I) >>= _) _ _ s
  refine wpAny_bind (wpAny_pyNext_list_item hit hl e1 fun h' hit' hs'=>?_)
  have hget:h'.get? t=some {cls:= .type "tuple",data:= .seq #[K,V] m}:=(hs'.2 t htI).trans e2
  have hT:({s with heap:=h'}:Shared).TypeIs (.ref t) "tuple":=⟨_,hget,rfl⟩
  have hd':h'.DictOf (mixKind prog w) D acc:=by
   obtain ⟨o,es,ep,ho,r⟩:=hd
   exact ⟨o,es,ep,(hs'.2 D h1).trans ho,r⟩
  refine wpAny_bind (wpAny_holding (wpAny_bind (wpAny_tryCatch ?_)))
  unfold Builtin.Dict.pairItems
  refine wpAny_bind (wpAny_typeOf hT ?_)
  refine wpAny_ite_split (fun _=>?_) (fun hab=>absurd (by decide) hab)
  refine wpAny_bind (wpAny_seqItems hget rfl (wpAny_pure ?_))
  dsimp only [Option.getD_some]
  refine wpAny_holding (wpAny_dictSet_pairs (hsz:=by omega) e3 hd' fun h'' hd'' hs''=>?_)
  refine wpAny_pure ⟨plainId_quiet plain_update_loop _,?_⟩
  have hl':h'.IsList l items:=hl.extBut hs'.extBut h3
  have e0:rawInt ((i:Int) +1) =rawInt ((i+1:Nat):Int):=by simp
  rw [e0]
  have cons:ps.drop i= (k,V) ::ps.drop (i+1):=by
   obtain ⟨hl2,he⟩:=List.getElem?_eq_some_iff.mp hk'
   rw [List.drop_eq_getElem_cons hl2,he]
  have hlen:(stored acc k V).length≤acc.length+1:=by
   unfold stored
   split
   ·simp
   ·simp
  refine ih (i+1) _ (stored acc k V) (by rw [Nat.sub_add_eq,hn];rfl) hlt (hit'.extBut hs''.extBut (Ne.symm h1)) (hl'.extBut hs''.extBut (Ne.symm h2)) hd'' ⟨hp.1,fun j k' V' e=>?_⟩ (Nat.le_trans (Nat.add_le_add_right hlen n) (by rw [Nat.add_assoc,Nat.add_comm 1];exact hsz)) fun h3' tk hk3 hd3=>?_
  ·obtain ⟨t',K',m',a1,a2,a3,a4⟩:=hp.2 j k' V' e
   have b1:t'≠I:=fun q=>a4 (by simp [q])
   have b2:t'≠D:=fun q=>a4 (by simp [q])
   exact ⟨t',K',m',a1,(hs''.2 t' b2).trans ((hs'.2 t' b1).trans a2),a3,a4⟩
  ·refine hR h3' tk (fun b o hbI hbD e=>hk3 b o hbI hbD ((hs''.2 b hbD).trans ((hs'.2 b hbI).trans e))) ?_
   rw [cons];exact hd3
theorem call_dict_pairs {Q:Value→Shared→Prop}{a:Addr}{vs:List Value}{k:Nat}{ps:List (Key × Value)}(hA:A.handled=none)(hg:s.heap.get? a=some {cls:= .type "list",data:= .seq vs.toArray k})
  (hp:PairsAt s.heap prog w vs.toArray ps []) (hsz:ps.length≤sizeLine)
  (h:∀h' tk D,(∀b o,s.heap.get? b=some o→h'.get? b=some o)→s.heap.get? D=none→h'.DictOf (mixKind prog w) D (merged [] ps)→Q (.ref D) {s with heap:=h',toks:=tk}) :
  wpAny (model prog w) A (call (.type "dict") [.ref a]) Q E s:=by
 refine callType_codes (Q₁:=fun obj s₁=>obj= .ref s.heap.objs.size∧s₁= {s with heap:=s.heap.push {cls:= .type "dict",data:= .dict #[]}}) F.kt_called_dict (F.kt_typeCall_dict_1 _) F.entry_dict_init (kt_code_dict_new _ ⟨rfl,rfl⟩) ?_
 rintro obj s₁ ⟨rfl,rfl⟩
 generalize hh₁:s.heap.push {cls:= .type "dict",data:= .dict #[]} =h₁
 have gsz:h₁.objs.size=s.heap.objs.size+1:=by rw [← hh₁,Heap.size_push]
 have hnew:h₁.DictOf (mixKind prog w) s.heap.objs.size []:=by rw [← hh₁];exact Heap.DictOf.new s.heap
 have k1:∀b o,s.heap.get? b=some o→h₁.get? b=some o:=fun b o e=>by rw [← hh₁];exact Heap.get?_push_of_some _ e
 have hg1:=k1 _ _ hg
 have hal:=Heap.lt_size hg
 refine ⟨hnew.typeIs,F.args_dict_init_2 _ _,?_⟩
 unfold Builtin.«dict.__init__»
 refine wpAny_bind ?_
 unfold Builtin.Dict.selfAndRest
 refine wpAny_bind (wpAny_notOrdered_dict hnew.typeIs ?_)
 show wpAny _ _ (pure (s.heap.objs.size,[Value.ref a])) _ _ _
 refine wpAny_pure ?_
 show wpAny _ _ (Builtin.Dict.updateFrom "dict.__init__" s.heap.objs.size (.ref a) [] .none) _ _ _
 unfold Builtin.Dict.updateFrom
 refine wpAny_bind (wpAny_typeOf (T:="list") ⟨_,hg1,rfl⟩ ?_)
 refine wpAny_ite_split (fun _=>?_) (fun hab=>absurd (by decide) hab)
 refine wpAny_bind (keys_of_list (A:=A.in1.in1) hg1 hA fun h₂ tk k2=>?_)
 refine wpAny_ite_split (fun _=>?_) (fun hab=>absurd (by rfl) hab)
 refine wpAny_bind (wpAny_rule ?_)
 have hg2:=k2 _ _ hg1
 refine wpAny_bind (wpAny_pyIter_list (isList hg2) ?_)
 generalize hh₃:h₂.push {cls:= .type "list_iterator",data:= .fields #[.ref a, .int 0 0]} =h₃
 have k3:∀b o,h₂.get? b=some o→h₃.get? b=some o:=fun b o e=>by rw [← hh₃];exact Heap.get?_push_of_some _ e
 have hit:h₃.IsListIter h₂.objs.size a 0:=by rw [← hh₃];exact ⟨_,Heap.get?_push_size _ rfl,rfl,rfl⟩
 have keep:∀b o,s.heap.get? b=some o→h₃.get? b=some o:=fun b o e=>k3 b o (k2 b o (k1 b o e))
 have hd3:h₃.DictOf (mixKind prog w) s.heap.objs.size []:=by
  obtain ⟨o,es,ep,ho,r⟩:=hnew
  exact ⟨o,es,ep,k3 _ _ (k2 _ _ ho),r⟩
 have big:s.heap.objs.size < h₂.objs.size:=by
  obtain ⟨o,es,ep,ho,r⟩:=hnew
  exact Heap.lt_size (k2 _ _ ho)
 have hps:PairsAt h₃ prog w vs.toArray ps [h₂.objs.size,s.heap.objs.size]:=by
  refine ⟨hp.1,fun j k V e=>?_⟩
  obtain ⟨t,K,n,e1,e2,e3,_⟩:=hp.2 j k V e
  have hlt:=Heap.lt_size e2
  refine ⟨t,K,n,e1,keep _ _ e2,e3,?_⟩
  simp only [List.mem_cons,List.not_mem_nil,or_false,not_or]
  exact ⟨Nat.ne_of_lt (Nat.lt_trans hlt big),Nat.ne_of_lt hlt⟩
 refine wpAny_pure ⟨plainId_quiet plain_update_loop _,?_⟩
 refine pairs_loop (A:=A.in1) hA (Nat.ne_of_lt big) (Nat.ne_of_gt hal) (Nat.ne_of_lt (Nat.lt_trans hal big)) _ 0 _ [] rfl (Nat.zero_le _) hit (isList (k3 _ _ hg2)) hd3 hps (by have:=hp.1;simp only [List.length_nil];omega) fun h' tk' hk hd'=>?_
 refine ⟨rfl,h h' tk' _ (fun b o e=>?_) (push_none _) ?_⟩
 ·have hlt:=Heap.lt_size e
  exact hk b o (Nat.ne_of_lt (Nat.lt_trans hlt big)) (Nat.ne_of_lt hlt) (keep b o e)
 ·rw [List.drop_zero] at hd';exact hd'
end
end Mine
end
section
namespace Mine
open PySem PySem.W PySem.Calls PyProof.Rows PySem.SeqAt
noncomputable def Pr.bid:Pr→String
 | .len=>"len"
 | .abs=>"abs"
 | .sorted=>"sorted"
 | .sum=>"sum"
 | .ord=>"ord"
 | .chr=>"chr"
 | .append=>"list.append"
 | .pop=>"list.pop"
 | .pop0=>"list.pop"
 | .extend=>"list.extend"
 | .index=>"list.index"
 | .get=>"dict.get"
 | .get2=>"dict.get"
 | .dpop=>"dict.pop"
 | .update=>"dict.update"
 | .join=>"str.join"
 | .starts=>"bytes.startswith"
 | .tuple=>"tuple"
 | .bytes=>"bytes"
 | .list=>"list"
 | .dict=>"dict"
noncomputable def Pr.isT:Pr→Bool
 | .tuple=>true
 | .bytes=>true
 | .list=>true
 | .dict=>true
 | _=>false
noncomputable def Pr.val (p:Pr):Value:=bif p.isT then .type p.bid else .builtin p.bid
section
variable {c:Wo}{φ:Fx}{g:Sg}{E:Hp→Prop}{v x z:MV}{V X Y:Value}{Q:Po MV}{m hd:Bool}
theorem list_type {s:Shared}{a:Addr}{vs:List Value}{k:Nat}(h:s.heap.get? a=some (oLst vs k)):s.TypeIs (.ref a) "list":=⟨_,h,rfl⟩
theorem sz63 {n:Nat}(h:n≤sizeMost):(n:Int) < 2 ^ 63:=by unfold sizeMost at h;omega
theorem keys_vrs {es:Dict}:∀ {kvs:KVs}{vs:List Value},PR c g.m es kvs→vs.length=kvs.length→(∀(j:Nat) v,vs[j]?=some v→∃k x,kvs[j]?=some (k,x)∧keyIs k v=true)→VRs c g.m (keysV es) vs:=by
 induction es with
 | nil=>intro kvs vs h hl _;cases h;exact List.length_eq_zero_iff.mp hl
 | cons e es ih=>
  intro kvs vs h hl hj
  obtain ⟨w,r,rfl,a,b⟩:=h
  cases vs with
  | nil=>cases hl
  | cons v vs=>
   obtain ⟨k,x,q,hk⟩:=hj 0 v rfl
   obtain rfl:e.1=k:=congrArg Prod.fst (Option.some.inj q)
   refine ⟨v,vs,rfl,?_,ih b (Nat.succ.inj hl) fun j v e=>hj (j+1) v e⟩
   obtain ⟨k | k,_⟩:=e
   ·exact keyIs_int hk
   ·exact keyIs_str hk
theorem mapSeq_l (f:Array Value→Array Value)(vs us:List Value)(k:Nat)(h:f vs.toArray=us.toArray):∃k',(Obj.mapSeq f (oLst vs k)) =oLst us k':=(mapSeq_list f vs.toArray k).imp fun k' e=>by rw [e,h]
theorem nd_list {N:Sg→Prop}{l:List Env}{X:List Addr}(R:SR c g){i:Nat}{a:Addr}{xs ys:List MV}{vs us:List Value}{k t:Nat}{f:Array Value→Array Value}(e:g.H[i]?=some (cL xs))(ha:g.m.ρ[i]?=some a)(hb:g.at a=some (oLst vs k))(hf:f vs.toArray=us.toArray)(r:VRs c g.m ys us)
  (n:N ((g.put i (cL ys)).on (g.s.heap.update a (Obj.mapSeq f)) t)):Nd c l X g N {g.s with heap:=g.s.heap.update a (Obj.mapSeq f),toks:=t}:=
 have ⟨k',e4⟩:=mapSeq_l f vs us k hf
 nd_store (o':= .list ys) R e ha (Heap.SameBut.update ..) (Heap.get?_update_self _ hb (by rw [e4];rfl)) (e4▸⟨us,k',rfl,r⟩) n
theorem sim_len (hv:VR c g.m v V)(h:p1 m hd .len v Q g.H):Sm c φ (call (.builtin "len") [V]) g (VN c Q) E:=fun R=>by
 have gen:deref v g.H (fun o=>match o with
   | .list xs=>xs.length≤sizeMost∧Q (.int xs.length) g.H
   | .dict es=>es.length≤sizeMost∧Q (.int es.length) g.H)→wpAny (model c.prog c.w) φ.A (call (.builtin "len") [V]) (fun b=>Nd c [] φ.X g (VN c Q b)) (fun e=>Nd c φ.l φ.X g (Xc φ g e E)) g.s:=fun h=>by
  obtain ⟨a,o,ob,rfl,h1,h2,hs,q⟩:=R.deref hv h
  cases o with
  | list xs=>
   obtain ⟨vs,n,rfl,r⟩:=h2
   refine call_len_list (isList h1) (by rw [List.size_toArray,← r.length];exact sz63 q.1) ?_
   rw [List.size_toArray,← r.length]
   exact vI R q.2
  | dict es=>
   obtain ⟨kvs,i,r⟩:=h2
   refine call_len_dict (knd:=c.kd) hs (Heap.dictOf_iff.mpr ⟨ob,h1,i⟩) (by rw [← r.length];exact sz63 q.1) ?_
   rw [← r.length]
   exact vI R q.2
 cases v with
 | str s=>obtain ⟨t,rfl⟩:=hv;exact SBL.len (sz63 h.1) (vI R h.2)
 | _=>exact gen h
theorem fin_list (W:Wd c)(R:SR c g){l:List Env}{X:List Addr}{xs:List MV}{vs:List Value}{h:Heap}{t n:Nat}{D:Addr}(k:∀a o,g.at a=some o→h.get? a=some o)(hD:h.get? D=some (oLst vs n))(hn:g.at D=none)(hv:VRs c g.m xs vs)
  (q:mkList m xs Q g.H):Nd c l X g (VN c Q (.ref D)) {g.s with heap:=h,toks:=t}:=nd_mkList R k hD hn (R.not_sys W hn) hv q
theorem sim_sorted (W:Wd c)(hh:Hnd φ.A g.s.heap)(hv:VR c g.m v V)(h:p1 m hd .sorted v Q g.H):Sm c φ (call (.builtin "sorted") [V]) g (VN c Q) E:=fun R=>by
 have fin:∀(xs:List MV) (V:Value),sortM m xs Q g.H→(∀R:List Value→Shared→Prop,(∀h' tk vs,(∀b o,g.at b=some o→h'.get? b=some o)→VRs c g.m xs vs→R vs {g.s with heap:=h',toks:=tk})→xs.length≤sizeLine→wpAny (model c.prog c.w) φ.A.in1 (collect V) R (fun e=>Nd c φ.l φ.X g (Xc φ g e E)) g.s)→
   wpAny (model c.prog c.w) φ.A (call (.builtin "sorted") [V]) (fun b=>Nd c [] φ.X g (VN c Q b)) (fun e=>Nd c φ.l φ.X g (Xc φ g e E)) g.s:=by
  intro xs V hq hc
  have l64:∀ {n:Nat},n < 64→n≤sizeLine:=fun h=>by rw [sizeLine_eq];omega
  rcases hq with ⟨l,rfl,h64,q⟩ | ⟨l,rfl,h64,q⟩
  ·exact sorted_of (fun R' hR=>hc R' (fun h' tk vs hk r=>hR h' tk vs hk (.num (ints_are r)) (by rw [← r.length,List.length_map];exact h64)) (by rw [List.length_map];exact l64 h64)) fun h' tk D vs' k hk hD hg hr=>fin_list W R hk hg hD (hr c g.m) q
  ·exact sorted_of (fun R' hR=>hc R' (fun h' tk vs hk r=>hR h' tk vs hk (.txt (strs_are r)) (by rw [← r.length,List.length_map];exact h64)) (by rw [List.length_map];exact l64 h64)) fun h' tk D vs' k hk hD hg hr=>fin_list W R hk hg hD (hr c g.m) q
 have h:deref v g.H (fun o=>match o with
  | .list xs=>sortM m xs Q g.H
  | .dict es=>sortM m (keysV es) Q g.H):=h
 obtain ⟨a,o,ob,rfl,h1,h2,hs,q⟩:=R.deref hv h
 cases o with
 | list xs=>
  obtain ⟨vs,n,rfl,r⟩:=h2
  exact fin xs _ q fun R' hR hl=>collect_list (isList h1) (hR _ _ vs (fun b o e=>(Heap.get?_update_ne _ _ _ _ (Nat.ne_of_lt (Heap.lt_size e))).trans (Heap.get?_push_of_some _ e)) r) (by rw [← r.length];exact hl)
 | dict es=>
  obtain ⟨kvs,i,r⟩:=h2
  obtain ⟨ep,hat⟩:=(Heap.dictOf_iff.mpr ⟨ob,h1,i⟩:g.s.heap.DictOf c.kd a kvs).dictAt
  refine fin _ _ q fun R' hR hl=>collect_dict (A:=φ.A.in1) hh hs hat (by unfold keysV at hl;rw [List.length_map,r.length] at hl;exact hl) fun h' tk acc hk hacc=>hR h' tk acc.toList hk ?_
  exact keys_vrs r (by rw [Array.length_toList];exact hacc.1) fun j v e=>hacc.2 j v (by rw [← Array.getElem?_toList];exact e)
theorem oct_are {l:List UInt8}:∀ {vs:List Value},VRs c g.m (l.map octV) vs→∃ns,IntsAre vs ns∧(∀n∈ns,0≤n∧n < 256)∧byteArr ns=l.toArray:=by
 induction l with
 | nil=>intro vs h;cases h;exact ⟨[], .nil,nofun,rfl⟩
 | cons b l ih=>
  intro vs h
  obtain ⟨v,r,e,⟨t,e'⟩,b'⟩:=h
  obtain ⟨ns,h1,h2,h3⟩:=ih b'
  refine ⟨b.toNat::ns,by rw [e,e'];exact .cons _ t h1,fun n hn=>(List.mem_cons.mp hn).elim (fun e=>e▸⟨Int.natCast_nonneg _,by have:=b.toNat_lt;omega⟩) (h2 n),?_⟩
  have:=congrArg Array.toList h3
  unfold byteArr at this ⊢
  simp only [List.toList_toArray] at this
  rw [List.map_cons,this]
  simp
theorem sim_bytes (hA:hd=false→φ.A.handled=none)(hv:VR c g.m v V)(h:p1 m hd .bytes v Q g.H):Sm c φ (call (.type "bytes") [V]) g (VN c Q) E:=fun R=>by
 have gen:(hd=false∧derL v g.H fun xs=>∃l,xs=l.map octV∧l.length≤sizeMost∧Q (.bytes l) g.H)→wpAny (model c.prog c.w) φ.A (call (.type "bytes") [V]) (fun b=>Nd c [] φ.X g (VN c Q b)) (fun e=>Nd c φ.l φ.X g (Xc φ g e E)) g.s:=fun ⟨h0,h⟩=>by
  obtain ⟨a,xs,vs,n,rfl,h1,r,hs,l,rfl,hl,q⟩:=R.derL hv h
  obtain ⟨ns,h5,h6,h7⟩:=oct_are r
  refine call_bytes_ints (isList h1) h5 h6 (by rw [← r.length,List.length_map];exact sizeMost_le hl) (hA h0) fun h' t k hk=>?_
  rw [h7]
  exact nd_on R hk ⟨.bytes l,⟨t,rfl⟩,q⟩
 cases v with
 | bytes b=>obtain ⟨t,rfl⟩:=hv;exact call_bytes_bytes (vn_same (v:= .bytes b) R ⟨t,rfl⟩ h)
 | _=>exact gen h
theorem fin_dict (W:Wd c)(R:SR c g){l:List Env}{X:List Addr}{es:Dict}{kvs:KVs}{h:Heap}{t:Nat}{D:Addr}(k:∀a o,g.at a=some o→h.get? a=some o)(hD:h.DictOf c.kd D kvs)(hn:g.at D=none)(hv:PR c g.m es kvs)
  (q:mkDict m es Q g.H):Nd c l X g (VN c Q (.ref D)) {g.s with heap:=h,toks:=t}:=nd_mkDict R k hD hn (R.not_sys W hn) hv q
theorem pairs_rel (R:SR c g){es:Dict}:∀ {vs:List Value},VRs c g.m (es.map keyed) vs→∃ps:KVs,PR c g.m es ps∧ps.length=vs.length∧∀(j:Nat)(k:Key)(V:Value),ps[j]?=some (k,V)→∃(t:Addr)(K:Value)(n:Nat),vs[j]?=some (Value.ref t)∧g.at t=some {cls:= .type "tuple",data:= .seq #[K,V] n}∧keyIs k K=true:=by
 induction es with
 | nil=>intro vs h;cases h;exact ⟨[],rfl,rfl,nofun⟩
 | cons e es ih=>
  intro vs h
  obtain ⟨v,r,rfl,a,b⟩:=h
  obtain ⟨ps,p1,p2,p3⟩:=ih b
  obtain ⟨t,us,n,rfl,_,hz,K,r1,rfl,hK,V,r2,rfl,hV,rfl⟩:=a
  refine ⟨(e.1,V) ::ps,⟨V,ps,rfl,hV,p1⟩,congrArg (· +1) p2,fun j k' V' q=>?_⟩
  cases j with
  | zero=>
   cases q
   refine ⟨t,K,n,rfl,R.z _ _ hz,?_⟩
   obtain ⟨k | k,_⟩:=e
   ·obtain ⟨t,rfl⟩:=hK;exact is_int k t
   ·obtain ⟨t,rfl⟩:=hK;exact is_str k t
  | succ j=>exact p3 j k' V' q
theorem sim_p1 (W:Wd c)(hh:Hnd φ.A g.s.heap)(hA:hd=false→φ.A.handled=none)(p:Pr)(hv:VR c g.m v V)(h:p1 m hd p v Q g.H):Sm c φ (call p.val [V]) g (VN c Q) E:=by
 cases p with
 | len=>exact sim_len hv h
 | sorted=>exact sim_sorted W hh hv h
 | bytes=>exact sim_bytes hA hv h
 | abs=>exact fun R=>by obtain ⟨i,t,rfl,q⟩:=hv.asInt h;exact call_abs_int fun u tk=>vI R q
 | ord=>exact fun R=>by obtain ⟨h0,h⟩:=h;obtain ⟨s,t,rfl,k,rfl,q⟩:=hv.asStr h;exact P.ord_of_char (vI R q)
 | chr=>exact fun R=>by obtain ⟨h0,h⟩:=h;obtain ⟨i,t,rfl,h1,h2,q⟩:=hv.asInt h;exact P.chr_of_int (by simp;omega) (vS R q)
 | sum=>
  exact fun R=>by
   obtain ⟨h0,h⟩:=h
   obtain ⟨a,xs,vs,n,rfl,h1,r,hs,l,rfl,_,_,q⟩:=R.derL hv h
   have hi:=ints_are r
   obtain ⟨xs',hx⟩:=hi.allInts.items
   have hl:=isList h1
   have hnn:numsOf vs.toArray.toList=l:=by rw [show vs.toArray.toList=vs from rfl,hi.numsOf]
   rw [hx] at hl hnn
   rw [nums_intItems] at hnn
   refine sum_intListG (hA h0) hl fun h' tk t' hk=>?_
   rw [preSum_eq,List.take_of_length_le (by simp),hnn]
   exact nd_on R hk ⟨.int l.sum,⟨_,rfl⟩,q⟩
 | pop=>
  exact fun R=>by
   obtain ⟨h0,h⟩:=h
   cases v with
   | ref i=>
    obtain ⟨xs,e,hl,ys,x,rfl,q⟩:=h
    obtain ⟨a,b,rfl,ha,hz,hb,ho,hs⟩:=R.chg hv e
    obtain ⟨vs,n,rfl,r⟩:=ho
    obtain ⟨us,u,rfl,h3,h4⟩:=r.snoc
    refine call_meets PySem.F.slot_list_pop (list_type hb) PySem.F.entry_list_pop (PySem.F.args_list_pop_1 _) (PySem.MeetsSeq.list_pop_last a _ n u (by simp) (by rw [List.size_toArray,← r.length];exact sizeMost_le hl)) ⟨hb,?_⟩
    exact nd_list R e ha hb (erase_last us u) h3 ⟨x,h4,q⟩
   | _=>exact h.elim
 | tuple=>
  exact fun R=>by
   obtain ⟨a,xs,vs,n,rfl,h1,r,hs,hl,q⟩:=R.derL hv h
   refine call_tuple_list (isList h1) (fun h' hk=>?_) (by rw [List.size_toArray,← r.length];exact sizeMost_le hl)
   have hn0:g.at h'.objs.size=none:=none_of fun o e=>Nat.lt_irrefl _ (Heap.lt_size (hk _ _ e))
   exact nd_frozen R (fun a o e=>Heap.get?_push_of_some _ (hk a o e)) (Heap.get?_push_size _ rfl) hn0 fun le=>⟨.tup xs,⟨_,vs,_,rfl,R.not_sys W hn0,zput_at,r.up le⟩,q⟩
 | list=>
  exact fun R=>by
   obtain ⟨h0,h⟩:=h
   obtain ⟨a,o,ob,rfl,h1,h2,hs,q⟩:=R.deref hv h
   cases o with
   | list xs=>
    obtain ⟨vs,n,rfl,r⟩:=h2
    exact call_list_seq a (.inl rfl) h1 rfl rfl (fun h' c' hk hg=>fin_list (t:=g.s.toks) W R hk hg (push_none _) r q) (by rw [List.size_toArray,← r.length];exact sizeMost_le q.1)
   | dict es=>
    obtain ⟨kvs,i,r⟩:=h2
    obtain ⟨ep,hat⟩:=(Heap.dictOf_iff.mpr ⟨ob,h1,i⟩:g.s.heap.DictOf c.kd a kvs).dictAt
    have hl:=q.1
    unfold keysV at hl
    rw [List.length_map,r.length] at hl
    refine kdl_call (kdl_dict (knd:=c.kd) (kvs:=kvs) (ep:=ep) hs) (hA h0) hat (sizeMost_le hl) fun h' tk acc c' hk hg hacc=>?_
    exact fin_list (vs:=acc.toList) W R hk (by simpa using hg) (push_none _) (keys_vrs r (by rw [Array.length_toList];exact hacc.1) fun j v e=>hacc.2 j v (by rw [← Array.getElem?_toList];exact e)) q
 | dict=>
  exact fun R=>by
   obtain ⟨h0,h⟩:=h
   obtain ⟨a,o,ob,rfl,h1,h2,hs,q⟩:=R.deref hv h
   cases o with
   | dict es=>
    obtain ⟨kvs,i,r⟩:=h2
    refine kt_call_dict hs (Heap.dictOf_iff.mpr ⟨ob,h1,i⟩:g.s.heap.DictOf c.kd a kvs) (by rw [← r.length];exact sizeMost_le q.1) fun h' hd hs=>?_
    exact fin_dict (t:=g.s.toks) W R (fun b o e=>(hs.2 b (Nat.ne_of_lt (Heap.lt_size e))).trans (Heap.get?_push_of_some _ e)) hd (push_none _) r q
   | list xs=>
    obtain ⟨vs,n,rfl,r⟩:=h2
    obtain ⟨es,rfl,hl,q⟩:=q
    obtain ⟨ps,p1,p2,p3⟩:=pairs_rel R r
    refine call_dict_pairs (hA h0) h1 ⟨by rw [List.size_toArray];exact p2,fun j k V e=>?_⟩ (by rw [← p1.length];exact sizeMost_le hl) fun h' tk D hk hD hd=>fin_dict W R hk hd hD (PR.puts (x:=[]) (v:=[]) rfl p1) q
    obtain ⟨t,K,n,a1,a2,a3⟩:=p3 j k V e
    exact ⟨t,K,n,by simpa using a1,a2,a3,List.not_mem_nil⟩
 | _=>exact h.elim
end
end Mine
end
section
namespace Mine
open PySem PySem.W PySem.Calls PyProof.Rows PySem.SeqAt
section
variable {c:Wo}{φ:Fx}{g:Sg}{E:Hp→Prop}{v x z:MV}{V X Y:Value}{Q:Po MV}{m hd:Bool}
theorem vN {l:List Env}{Xs:List Addr}(R:SR c g){h:Heap}{t i:Nat}{k:Cell}(n:Nd c l Xs g (fun g'=>∃t,g'= (g.put i k).on h t) {g.s with heap:=h,toks:=t})(q:Q .none (g.H.set i k)):Nd c l Xs g (VN c Q .none) {g.s with heap:=h,toks:=t}:=
 n.mono fun g' _ _ ⟨t,e⟩=>e▸⟨.none,rfl,q⟩
theorem StrsAre.at {vs:List Value}{ss:List Str}(h:StrsAre vs ss):∀ {j:Nat}{v:Value},vs[j]?=some v→∃x t,v= .str x t∧ss[j]?=some x:=by
 induction h with
 | nil=>intro j v e;cases e
 | cons y t _ ih=>
  intro j v e
  cases j with
  | zero=>cases e;exact ⟨y,t,rfl,rfl⟩
  | succ j=>exact ih e
theorem key_part {k:Key}{V:Value}(h:keyIs k V=true):(keyPart V).isSome=true:=by
 cases k with
 | inl i=>obtain ⟨t,rfl⟩:=keyIs_int h;rfl
 | inr i=>obtain ⟨t,rfl⟩:=keyIs_str h;rfl
theorem join_empty' (ls:List Str):Str.join ("":Str) ls=joinS ls:=by
 have app:∀a b:Str,a ++ b= ⟨a.cps ++ b.cps⟩:=fun _ _=>rfl
 have em:("":Str) = ⟨#[]⟩:=rfl
 induction ls with
 | nil=>rfl
 | cons x r ih=>
  cases r with
  | nil=>show x=_;unfold joinS;simp
  | cons y r=>
   have e:Str.join ("":Str) (x::y::r) =x ++ ("":Str) ++ Str.join ("":Str) (y::r):=rfl
   rw [e,ih,app,app,em]
   unfold joinS
   simp
theorem join_empty (ls:List Str):Txt.join ("":Str) ls=joinS ls:=(eq_of_beq (join_plain_closes _ _)).trans (join_empty' ls)
theorem sim_index (hv:VR c g.m v V)(hx:VR c g.m x X)(h:p2 hd .index v x Q g.H):Sm c φ (call (.builtin "list.index") [V,X]) g (VN c Q) E:=fun R=>by
 obtain ⟨h0,h⟩:=h
 obtain ⟨a,xs,vs,k,rfl,h1,r,hs,h⟩:=R.derL hv h
 obtain ⟨s,t,rfl,l,rfl,hl,n,⟨i1,i2⟩,q⟩:=hx.asStr h
 have hS:=strs_are r
 have hn:n < vs.length:=by rw [← r.length,List.length_map];exact (List.getElem?_eq_some_iff.mp i1).1
 have hev:∀y∈vs,EqAt φ.A.in1 g.s y (.str s t) (ev (.str s) y):=fun y hy=>by
  obtain ⟨i,hi⟩:=List.mem_iff_getElem?.mp hy
  obtain ⟨z,u,rfl,_⟩:=StrsAre.at hS hi
  show EqAt _ _ _ _ (strB z s)
  rw [← str_beq]
  exact EqAt.str_str _ _ _ _
 refine call_meets PySem.F.slot_list_index (list_type h1) PySem.F.entry_list_index (PySem.F.args_list_index_2 _ _) (PySem.SeqAt.list_indexAt a vs.toArray k none #[] (.str s t) (ev (.str s)) n (by simpa using hn) (by have:=(List.getElem?_eq_some_iff.mp i1).1;unfold sizeMost at hl;omega) ?_ fun i hi hij=>?_) ⟨h1,fun y hy=>hev y (by simpa using hy),vI R q⟩
 ·obtain ⟨z,u,e,e'⟩:=StrsAre.at hS (List.getElem?_eq_getElem hn)
  have:z=s:=Option.some.inj (e'.symm.trans i1)
  simp only [List.getElem_toArray]
  rw [e,this]
  exact decide_eq_true rfl
 ·have hi':i < vs.length:=by simpa using hi
  obtain ⟨z,u,e,e'⟩:=StrsAre.at hS (List.getElem?_eq_getElem hi')
  simp only [List.getElem_toArray]
  rw [e]
  exact decide_eq_false (i2 i z hij e')
theorem sim_get {rest:List Value}(hv:VR c g.m v V)(hx:VR c g.m x X)(hz:VR c g.m z Y)(hr:(rest= [X]∧Y= .none)∨rest= [X,Y])(h:derD v g.H fun es=>asKey x fun k=>Q ((dlook es k).getD z) g.H):Sm c φ (call (.builtin "dict.get") (V::rest)) g (VN c Q) E:=fun R=>by
 obtain ⟨a,es,kvs,rfl,h1,r,hs,h⟩:=R.derD hv h
 obtain ⟨k,hk,q⟩:=hx.asKey h
 have hr':VR c g.m ((dlook es k).getD z) ((valueAt kvs k).getD Y):=by
  have:=r.look k
  cases q:dlook es k with
  | none=>rw [q] at this;rw [show valueAt kvs k=none from this];exact hz
  | some y=>rw [q] at this;exact this.elim fun w h=>h.1▸h.2
 rcases hr with ⟨rfl,rfl⟩ | rfl
 ·exact call_meetsIn PySem.F.slot_dict_get h1.mapOf.typeIs PySem.F.entry_dict_get (PySem.F.args_dict_get_2 _ _) (meets_dict_get c.kd a hk hs) ⟨_,h1.mapOf,vn_tok R hr' q⟩
 ·exact call_meetsIn PySem.F.slot_dict_get h1.mapOf.typeIs PySem.F.entry_dict_get (PySem.F.args_dict_get_3 _ _ _) (meets_dict_get_default c.kd a hk hs Y) ⟨_,h1.mapOf,vn_tok R hr' q⟩
theorem starts_meets (b p:List UInt8)(t u:Tok):Meets (Builtin.«bytes.startswith» ⟨[.bytes b.toArray t, .bytes p.toArray u],[]⟩) (fun _ R s=>R (.ok (.ret (.bool (p.isPrefixOf b)))) s):= .of_wp fun prog w A R s h=>by
 rw [starts_eq,starts_prefix]
 exact wpAny_pure ⟨_,rfl,h⟩
theorem sim_p2 (p:Pr)(hv:VR c g.m v V)(hx:VR c g.m x X)(h:p2 hd p v x Q g.H):Sm c φ (call p.val [V,X]) g (VN c Q) E:=by
 cases p with
 | index=>exact sim_index hv hx h
 | get=>exact sim_get hv hx (z:= .none) rfl (.inl ⟨rfl,rfl⟩) h
 | append=>
  cases v with
  | ref i=>
    intro R
    obtain ⟨xs,e,hl,q⟩:=h
    obtain ⟨a,b,rfl,ha,hz,hb,⟨vs,n,rfl,r⟩,hs⟩:=R.chg hv e
    refine call_meets PySem.F.slot_list_append (list_type hb) PySem.F.entry_list_append (PySem.F.args_list_append_2 _ _) (PySem.list_append a vs.toArray n X (by rw [List.size_toArray,← r.length];exact sizeMost_le (Nat.le_of_lt hl))) ⟨hb,?_⟩
    exact nd_list (us:=vs ++ [X]) R e ha hb (by simp) ((VRs.one hx).append r) ⟨.none,rfl,q⟩
  | _=>exact h.elim
 | pop0=>
  obtain ⟨h0,h⟩:=h
  cases v with
  | ref i=>
    intro R
    obtain ⟨xs,e,rfl,hl,y,ys,rfl,q⟩:=h
    obtain ⟨t,rfl⟩:=hx
    obtain ⟨a,b,rfl,ha,hz,hb,⟨vs,n,rfl,w,r,rfl,r0,r1⟩,hs⟩:=R.chg hv e
    refine call_meets PySem.F.slot_list_pop (list_type hb) PySem.F.entry_list_pop (PySem.F.args_list_pop_2 _ _) (PySem.MeetsSeq.list_pop_at a _ n 0 t 0 w (by decide) (seqIndex_in (by simp)) (by simp) (by rw [List.size_toArray,List.length_cons,← r1.length];exact sizeMost_le hl)) ⟨hb,?_⟩
    exact nd_list R e ha hb (erase_at w r) r1 ⟨y,r0,q⟩
  | _=>exact h.elim
 | extend=>
  obtain ⟨h0,h⟩:=h
  cases v with
  | ref i=>
    intro R
    obtain ⟨xs,e,h⟩:=h
    obtain ⟨ys,hy,hl,q⟩:=hx.asLst h
    obtain ⟨b,us,k2,rfl,_,z,r2⟩:=hy
    obtain ⟨a,o,rfl,ha,hz,hb,⟨vs,n,rfl,r⟩,hs⟩:=R.chg hv e
    have l1:=r.length
    have l2:=r2.length
    have hm:=sizeMost_le hl
    have hlong:Builtin.List.listTooLong (vs.toArray.size+us.toArray.size) =false:=by
     rw [List.size_toArray,List.size_toArray,← l1,← l2]
     exact decide_eq_false (by rw [sizeLine_eq];unfold sizeMost at hl;omega)
    refine call_meets PySem.F.slot_list_extend (list_type hb) PySem.F.entry_list_extend (PySem.F.args_list_extend_2 _ _) (PySem.AutoSeq1.list_extend_list_list_0 a vs.toArray n b us.toArray k2 (by rw [hlong,Bool.and_false];nofun) (by rw [List.size_toArray,← l1];exact Nat.le_trans (Nat.le_add_right _ _) hm) (by rw [List.size_toArray,List.size_toArray,← l1,← l2];exact Nat.le_succ_of_le hm)) ⟨hb,R.z _ _ z,?_⟩
    exact nd_list (f:=fun x=>x ++ us.toArray) (us:=vs ++ us) R e ha hb (by simp) (r2.append r) ⟨.none,rfl,q⟩
  | _=>exact h.elim
 | update=>
  obtain ⟨h0,h⟩:=h
  cases v with
  | ref i=>
    intro R
    obtain ⟨es,e,h⟩:=h
    obtain ⟨fs,hf,hl,q⟩:=hx.asDct h
    obtain ⟨b,oc,ls,rfl,hs2,z,hoc,r2⟩:=hf
    obtain ⟨a,o,rfl,ha,hz,hb,⟨kvs,hd,r⟩,hs⟩:=R.chg hv e
    have hdo:g.s.heap.DictOf c.kd a kvs:=Heap.dictOf_iff.mpr ⟨o,hb,hd⟩
    have hdc:g.s.heap.DictOf c.kd b ls:=Heap.dictOf_iff.mpr ⟨oc,R.z _ _ z,hoc⟩
    have hne:a≠b:=fun e=>by rw [e,z] at hz;cases hz
    refine call_meetsIn PySem.F.slot_dict_update hdo.mapOf.typeIs PySem.F.entry_dict_update (PySem.F.args_dict_update_2 _ _) (meets_dict_update c.kd a b hne hs2) ⟨_,_,hdo,hdc,by rw [← r.length,← r2.length];exact sizeMost_le hl,fun h' hd' _ hs'=>?_⟩
    obtain ⟨ob',hb',hd''⟩:=Heap.dictOf_iff.mp hd'
    exact nd_store (o':= .dict (dputs es fs)) R e ha hs' hb' ⟨_,hd'',r.puts r2⟩ ⟨.none,rfl,q⟩
  | _=>exact h.elim
 | join=>
   intro R
   obtain ⟨h0,h⟩:=h
   obtain ⟨s,t,rfl,rfl,h⟩:=hv.asStr h
   obtain ⟨a,xs,vs,n,rfl,h1,r,hs,l,rfl,hl,q⟩:=R.derL hx h
   refine join_list (isList h1) (strs_are r) (by have:("":Str).length=0:=rfl;rw [this];unfold sizeMost at hl;omega) fun t' k=>?_
   rw [join_empty]
   exact vS R q
 | starts=>
   intro R
   obtain ⟨h0,h⟩:=h
   obtain ⟨b,t,rfl,h⟩:=hv.asBytes h
   obtain ⟨p,u,rfl,q⟩:=hx.asBytes h
   exact call_meets FB.slot_bytes_startswith (PySem.W.typeIs_bytes _ _ _) FB.entry_bytes_startswith (FB.args_bytes_startswith_2 _ _) (starts_meets b p t u) (vn_same (v:= .bool _) R rfl q)
 | _=>exact h.elim
theorem sim_p3 (p:Pr)(hv:VR c g.m v V)(hx:VR c g.m x X)(hz:VR c g.m z Y)(h:p3 hd p v x z Q g.H):Sm c φ (call p.val [V,X,Y]) g (VN c Q) E:=by
 cases p with
 | get2=>exact sim_get hv hx hz (.inr rfl) h
 | dpop=>
  obtain ⟨h0,h⟩:=h
  cases v with
  | ref i=>
    intro R
    obtain ⟨es,e,hl,h⟩:=h
    obtain ⟨k,hk,_,q⟩:=hx.asKey h
    obtain ⟨a,o,rfl,ha,hz',hb,⟨kvs,hd,r⟩,hs⟩:=R.chg hv e
    have hdo:g.s.heap.DictOf c.kd a kvs:=Heap.dictOf_iff.mpr ⟨o,hb,hd⟩
    have hl':=r.look k
    cases q1:dlook es k with
    | none=>
     rw [q1] at hl' q
     exact call_meetsIn PySem.F.slot_dict_pop hdo.mapOf.typeIs PySem.F.entry_dict_pop (PySem.F.args_dict_pop_3 _ _ _) (meets_dict_pop_default c.kd a hk hs (key_part hk) Y) ⟨_,hdo,hl',vn_tok R hz q⟩
    | some y=>
     rw [q1] at hl' q
     obtain ⟨w,q2,ry⟩:=hl'
     refine call_meetsIn PySem.F.slot_dict_pop hdo.mapOf.typeIs PySem.F.entry_dict_pop (PySem.F.args_dict_pop_3 _ _ _) (meets_dict_pop_there c.kd a hk [Y] (.inr ⟨_,rfl⟩) (key_part hk)) ⟨_,_,hdo,by rw [← r.length];exact sizeMost_le hl,q2,fun h' hd' hs'=>?_⟩
     obtain ⟨ob',hb',hd''⟩:=Heap.dictOf_iff.mp hd'
     exact nd_store (o':= .dict (ddel es k)) R e ha hs' hb' ⟨_,hd'',r.del k⟩ ⟨y,ry,q⟩
  | _=>exact h.elim
 | _=>exact h.elim
theorem sim_prim (W:Wd c)(hh:Hnd φ.A g.s.heap)(hA:hd=false→φ.A.handled=none)(p:Pr){vs:List MV}{Vs:List Value}(hv:VRs c g.m vs Vs)(h:prim m hd p vs Q g.H):Sm c φ (call p.val Vs) g (VN c Q) E:=by
 cases vs with
 | nil=>exact h.elim
 | cons v vs=>
  obtain ⟨V,r,rfl,hv,h1⟩:=hv
  cases vs with
  | nil=>cases h1;exact sim_p1 W hh hA p hv h
  | cons x vs=>
   obtain ⟨X,r,rfl,hx,h2⟩:=h1
   cases vs with
   | nil=>cases h2;exact sim_p2 p hv hx h
   | cons z vs=>
    obtain ⟨Y,r,rfl,hz,h3⟩:=h2
    cases vs with
    | nil=>cases h3;exact sim_p3 p hv hx hz h
    | cons _ _=>exact h.elim
end
end Mine
end
section
namespace Mine
open PySem PySem.W PySem.Calls PyProof.Rows PySem.SeqAt
theorem FrsOk.fun {g:Sg}{l:List Env}(F:FrsOk g l):g.s.heap.FunFrames {} l:=by
 induction l with
 | nil=>trivial
 | cons env l ih=>exact (F env (.head _)).rec fun L o h1 h2 h3 h4 h5=>⟨h1,⟨L,o,h2,rfl,h4,h5⟩,ih fun e he=>F e (.tail _ he)⟩
theorem mem_frames {l:List Env}{a:Addr}(h:a∈l.filterMap (·.frame)):framesAt l a:=List.mem_filterMap.mp h
noncomputable def Grown (l:List Env)(e:Addr)(h h':Heap):Prop:=∀b o,b≠e→h.get? b=some o→Same l b o (h'.get? b)
theorem note_tail {s:Shared}{A:Around}{M:Model}{env:Env}{l:List Env}{e L:Addr}{oe:Obj}{vs:Array Value}{head:Value}{hadNext:Bool}{Q:Unit→Shared→Prop}{E:Value→Shared→Prop}(hfr:A.frames=some (env::l))(F:s.heap.FunFrames {} (env::l))(hL:env.frame=some L)
  (he:s.heap.get? e=some oe) (hdt:oe.data= .fields vs) (hsz:1 < vs.size)
  (h:∀h' T ts,Grown (env::l) e s.heap h'→s.heap.get? T=none→T≠e→h'.get? e=some (oe.mapFields (·.setIfInBounds 1 (.ref T)))→(∃o,h'.get? T=some o∧o.data= .fields ts)→ts[3]?=some (rawInt L)→Q () {s with heap:=h'}) :
  wpAny M A (do let a ← frameOf env;let pl ← entryPlaceOf L hadNext;let b ← EntryCells.newEntry head a .none (rawInt L) .none pl;setField (.ref e) 1 b) Q E s:=by
 have hene:e∉(env::l).filterMap (·.frame):=fun hm=>by
  obtain ⟨_,o,ho,hnf⟩:=F.mem hm
  rw [he] at ho;cases ho;exact hnf vs hdt
 refine wpAny_bind (wpAny_frameOf_fun hfr F hL fun h₁ hs₁=>?_)
 refine wpAny_bind (wpAny_entryPlaceOf fun pl hpl=>?_)
 unfold EntryCells.newEntry newFields
 refine wpAny_bind (wpAny_newObj_type ?_ (hpl.sizeOk5 _ _ _ _ _))
 have he₁:h₁.get? e=some oe:=(hs₁.2.1 e hene).trans he
 generalize hto:({cls:= .type "traceback",dict:=none,data:= .fields ([head, .ref L, .none,rawInt L, .none] ++ (if pl.isEmpty then List.replicate 6 Value.none else pl)).toArray}:Obj) =ot
 have he₂:=Heap.get?_push_of_some (h:=h₁) ot he₁
 refine wpAny_setField he₂ hdt hsz ?_
 have hTe:h₁.objs.size≠e:=Nat.ne_of_gt (Heap.lt_size he₁)
 have hd₃:=Obj.data_mapFields hdt (·.setIfInBounds 1 (Value.ref h₁.objs.size))
 have he₃:=Heap.get?_update_self (Obj.mapFields (·.setIfInBounds 1 (Value.ref h₁.objs.size))) he₂ (Obj.isFreed_of_fields hd₃)
 have hfree:ot.isFreed=false:=by rw [← hto];rfl
 have hT₃:=(Heap.get?_update_other (h₁.push ot) (Obj.mapFields (·.setIfInBounds 1 (Value.ref h₁.objs.size))) (Ne.symm hTe)).trans (Heap.get?_push_size h₁ hfree)
 refine h _ h₁.objs.size ([head, .ref L, .none,rawInt L, .none] ++ (if pl.isEmpty then List.replicate 6 Value.none else pl)).toArray (fun b o hbe hb=>?_) (Heap.get?_none_of_le (by rw [hs₁.1];exact Nat.le_refl _)) hTe he₃ ⟨ot,hT₃,by rw [← hto]⟩ (by simp)
 obtain ⟨sl,hsl⟩:=hs₁.2.2 b o hb
 have hbT:b≠h₁.objs.size:=Nat.ne_of_lt (Heap.lt_size hsl)
 refine ⟨sl,(Heap.get?_update_other _ _ (Ne.symm hbe)).trans (Heap.get?_push_of_some _ hsl),fun hn=>?_⟩
 have:=hs₁.2.1 b fun q=>hn (mem_frames q)
 rw [hb,hsl] at this
 exact congrArg Obj.slots (Option.some.inj this)
noncomputable def Fl1 (L:Addr)(f:Option Value):Prop:=f=none∨f=some .none∨f=some (rawInt L)
noncomputable def FlL (L:Addr)(f:Option Value):Prop:=f=some (rawInt L)
noncomputable def flown (f:Option Value):Prop:=f=some .none
section
variable {c:Wo}{g g₀ g':Sg}{l:List Env}{X:List Addr}{A:Around}{env:Env}{L e:Addr}{E:Hp→Prop}
theorem Step.after {X':List Addr}{g'':Sg}(S:Step l X g g')(R:SR c g)(R':SR c g')(S':Step l X' g' g'')(hx:∀a∈X',g.at a=none):Step l X g g'':=
 ((S.weaken (X':=X ++ X') fun a ha=> .inl (List.mem_append_left _ ha)).trans R R' (S'.weaken fun a ha=> .inl (List.mem_append_right _ ha))).weaken fun a ha=>(List.mem_append.mp ha).imp id (hx a)
theorem FrsOk.step (F:FrsOk g l)(S:Step l X g g')(hx:∀a∈X,∀o,g'.at a=some o→∀vs,o.data≠ .fields vs):FrsOk g' l:=fun env he=>(F env he).rec fun L o h1 h2 h3 h4 h5=>by
 obtain ⟨o',e'⟩:=S.live L o h4
 refine ⟨L,o',h1,h2,S.priv h3 h4,e',?_⟩
 by_cases q:L∈X
 ·exact hx L q o' e'
 ·obtain ⟨sl,k,_⟩:=S.kp h3 q h4
  cases k.symm.trans e';exact h5
theorem FrsOk.not (F:FrsOk g l){o:Obj}{vs:Array Value}(h:g.at e=some o)(hd:o.data= .fields vs):¬ framesAt l e:=fun ⟨env',h1,h2⟩=>(F env' h1).rec fun L o' _ h3 _ h4 h5=>by
 cases h2.symm.trans h3;cases h.symm.trans h4;exact h5 vs hd
theorem grown_x {h:Heap}(R:SR c g)(F:FrsOk g l)(p:Priv g e)(k:Grown l e g.s.heap h)(hl:∃o,h.get? e=some o):SR c (g.on h g.s.toks)∧Step l [e] g (g.on h g.s.toks):=by
 have hfz:∀a,framesAt l a→Priv g a:=fun a ⟨env,h1,h2⟩=>(F env h1).rec fun L o _ h3 h4 _ _=>by cases h2.symm.trans h3;exact h4
 have k':∀a o,g.at a=some o→Kn g a→h.get? a=some o:=fun a o ho kn=>by
  obtain ⟨sl,h1,h2⟩:=k a o (fun q=>p.not (q▸kn)) ho
  rw [h2 fun q=>(hfz a q).not kn] at h1;exact h1
 refine ⟨⟨fun a o ho=>k' a o (R.z a o ho) (.inl ⟨o,ho⟩),R.base,R.len,R.nodup,fun i k a h1 h2=>?_⟩,⟨⟨h,g.s.toks,rfl⟩, .refl _,fun _ _ e _=>e,fun a o ho _ hx=>k a o (fun q=>hx (q▸ .head _)) ho,fun _=> .inl,fun _=> .inl,fun a o ho=>?_⟩⟩
 ·have C:=R.cells i k a h1 h2
  exact {C with o:=C.o.imp fun o q=>⟨k' a o q.1 (.inr (List.mem_of_getElem? h2)),q.2⟩}
 ·by_cases q:a=e
  ·exact q▸hl
  ·exact let ⟨sl,h1,_⟩:=k a o q ho;⟨_,h1⟩
theorem upd_x {o:Obj}{vs:Array Value}(R:SR c g)(F:FrsOk g l)(p:Priv g e)(he:g.at e=some o)(hd:o.data= .fields vs)(i:Nat)(v:Value) :
  (SR c (g.on (g.s.heap.update e (Obj.mapFields (·.setIfInBounds i v))) g.s.toks)∧Step l [e] g (g.on (g.s.heap.update e (Obj.mapFields (·.setIfInBounds i v))) g.s.toks))∧
   ∃o',(g.s.heap.update e (Obj.mapFields (·.setIfInBounds i v))).get? e=some o'∧o'.data= .fields (vs.setIfInBounds i v):=
 have hd':=Obj.data_mapFields hd (·.setIfInBounds i v)
 have he':=Heap.get?_update_self (Obj.mapFields (·.setIfInBounds i v)) he (Obj.isFreed_of_fields hd')
 ⟨grown_x R F p (fun b o hb h=> .rfl' ((Heap.get?_update_other _ _ (Ne.symm hb)).trans h)) ⟨_,he'⟩,_,he',hd'⟩
theorem FrsOk.stepX (F:FrsOk g l)(S:Step l X g g')(hx:∀a∈X,¬ framesAt l a):FrsOk g' l:=fun env he=>(F env he).rec fun L o h1 h2 h3 h4 h5=>
 have ⟨sl,k,_⟩:=S.kp h3 (fun q=>hx L q ⟨env,he,h2⟩) h4
 ⟨L,_,h1,h2,S.priv h3 h4,k,h5⟩
theorem note_flying {Mo:Model}{f:Option Value}{Ev:Value}{Q:Unit→Shared→Prop}{E:Value→Shared→Prop}(hfr:A.frames=some (env::l))(F:FrsOk g (env::l))(hL:env.frame=some L)(R:SR c g)(Ra:Raised g₀ g f Ev)(hf:Fl1 L f)(gone:∀a,g.at a=none→g₀.at a=none)
  (h:∀h' X',(∀a∈X',g₀.at a=none)→Step (env::l) X' g (g.on h' g.s.toks)→SR c (g.on h' g.s.toks)→FrsOk (g.on h' g.s.toks) (env::l)→Raised g₀ (g.on h' g.s.toks) (some (rawInt L)) Ev→Q () {g.s with heap:=h'}) :
  wpAny Mo A (noteFrame Ev env) Q E g.s:=by
 have Ra0:=Ra
 obtain ⟨e,rfl,o,vs,r1,r2,r4,r5,r6,b,r7,r8,hb,r9⟩:=Ra
 unfold noteFrame
 simp only [hL]
 have size1:1 < vs.size:=Nat.lt_of_lt_of_le (by decide) r8
 have hfe:=F.not r4 r6
 have tail:∀(h₁:Heap) (head:Value) (b:Bool) (X₁:List Addr),(∀a∈X₁,g₀.at a=none)→Step (env::l) X₁ g (g.on h₁ g.s.toks)→SR c (g.on h₁ g.s.toks)→FrsOk (g.on h₁ g.s.toks) (env::l)→h₁.get? e=some o→
   wpAny Mo A (do let a ← frameOf env;let pl ← entryPlaceOf L b;let b ← EntryCells.newEntry head a .none (rawInt L) .none pl;setField (.ref e) 1 b) Q E {g.s with heap:=h₁}:=by
  intro h₁ head b X₁ hX₁ S₁ R₁ F₁ he₁
  refine note_tail hfr F₁.fun hL he₁ r6 size1 fun h' T ts k hT hTe he' ⟨oT,hT1,hT2⟩ h3=>?_
  obtain ⟨R₂,S₂⟩:=grown_x R₁ F₁ (S₁.priv r2 r4) k ⟨_,he'⟩
  have hT0:g.at T=none:=S₁.absent hT
  refine h h' (e::X₁) (fun a ha=>(List.mem_cons.mp ha).elim (fun q=>q▸r1) (hX₁ a)) ((S₁.weaken fun a ha=> .inl (.tail _ ha)).trans R R₁ (S₂.weaken fun a ha=> .inl (List.mem_singleton.mp ha▸ .head _))) R₂ (F₁.stepX S₂ fun a ha=>List.mem_singleton.mp ha▸hfe) ?_
  exact ⟨e,rfl,_,_,r1,r2.rec fun a b=>⟨a,b⟩,he',(Obj.cls_mapFields _ _).trans r5,Obj.data_mapFields r6 _, .ref T,(Array.getElem?_setIfInBounds_ne (by decide)).trans r7,by rw [Array.size_setIfInBounds];exact r8,by simp [size1],T,rfl,hTe,oT,ts,gone T hT0,(R.absent hT0).rec fun a b=>⟨a,b⟩,hT1,trivial,hT2,h3⟩
 have on:g.on g.s.heap g.s.toks=g:=rfl
 rcases hf with rfl | rfl | rfl
 ·cases (show b= .none from r9)
  refine wpAny_bind (wpAny_field r4 r6 hb ?_)
  refine wpAny_ite_split (fun hab=>absurd hab (by decide)) fun _=>?_
  exact tail g.s.heap _ _ [] nofun Step.refl R F r4
 ·obtain ⟨T,rfl,t2,oT,ts,t3,t4,t6,_,t7,t8⟩:=r9
  refine wpAny_bind (wpAny_field r4 r6 hb ?_)
  refine wpAny_ite_split (fun _=>?_) fun hab=>absurd (by simp) hab
  refine wpAny_bind (wpAny_field t6 t7 t8 ?_)
  refine wpAny_ite_split (fun hab=>by simp [rawInt] at hab) fun _=>?_
  refine wpAny_bind (wpAny_setField t6 t7 (Array.getElem?_eq_some_iff.mp t8).1 ?_)
  obtain ⟨⟨u1,u2⟩,_⟩:=upd_x R F t4 t6 t7 3 .none
  exact tail _ _ _ [T] (fun a ha=>List.mem_singleton.mp ha▸t3) u2 u1 (F.stepX u2 fun a ha=>List.mem_singleton.mp ha▸F.not t6 t7) ((Heap.get?_update_other _ _ t2).trans r4)
 ·obtain ⟨T,rfl,t2,oT,ts,t3,t4,t6,_,t7,t8⟩:=r9
  refine wpAny_bind (wpAny_field r4 r6 hb ?_)
  refine wpAny_ite_split (fun _=>?_) fun hab=>absurd (by simp) hab
  refine wpAny_bind (wpAny_field t6 t7 t8 ?_)
  refine wpAny_ite_split (fun _=>?_) fun hab=>absurd (by first | exact beq_self_eq_true _ | simp) hab
  exact wpAny_pure (h g.s.heap [] nofun Step.refl R F Ra0)
noncomputable abbrev XE (c:Wo)(φ:Fx)(g:Sg)(E:Hp→Prop)(e:Value)(s:Shared):Prop:=Nd c φ.l φ.X g (Xc φ g e E) s
theorem notes {Mo:Model}{Ev:Value}{s:Shared}{Q:Unit→Shared→Prop}{E':Value→Shared→Prop}(hfr:A.frames=some (env::l))(hL:env.frame=some L)(R₀:SR c g)(h:XE c ⟨A,env::l,X,Fl1 L⟩ g E Ev s)
  (k:∀h',XE c ⟨A,env::l,X,FlL L⟩ g E Ev {s with heap:=h'}→Q () {s with heap:=h'}):wpAny Mo A (noteFrame Ev env) Q E' s:=by
 obtain ⟨g',rfl,R,S,F,⟨f,hf,Ra⟩,q⟩:=h
 exact note_flying hfr F hL R Ra hf (fun _=>S.absent) fun h' X' hX' S' R' F' Ra'=>k h' ⟨_,rfl,R',S.after R₀ R S' hX',F',⟨_,rfl,Ra'⟩,q⟩
theorem flights {Mo:Model}{Ev:Value}{s:Shared}{Q:Unit→Shared→Prop}{E':Value→Shared→Prop}{fl:Option Value→Prop}(hf:∀f,fl f→∃v,f=some v)(R₀:SR c g)(fr:Option Addr)(h:XE c ⟨A,l,X,fl⟩ g E Ev s)
  (k:∀h',XE c ⟨A,l,X,fun f=>f=some (fr.elim .none fun f=>rawInt f)⟩ g E Ev {s with heap:=h'}→Q () {s with heap:=h'}):wpAny Mo A (setFlight Ev fr) Q E' s:=by
 obtain ⟨g',rfl,R,S,F,⟨f,hq,Ra⟩,q⟩:=h
 obtain ⟨v,rfl⟩:=hf f hq
 obtain ⟨e,rfl,o,vs,r1,r2,r4,r5,r6,b,r7,r8,hb,T,rfl,t2,oT,ts,t3,t4,t6,_,t7,t8⟩:=Ra
 unfold setFlight
 refine wpAny_bind (wpAny_field r4 r6 hb ?_)
 refine wpAny_ite_split (fun _=>?_) fun hab=>absurd (by simp) hab
 have hsz:=(Array.getElem?_eq_some_iff.mp t8).1
 refine wpAny_setField t6 t7 hsz ?_
 obtain ⟨⟨u1,u2⟩,o',u3,u5⟩:=upd_x R F t4 t6 t7 3 (fr.elim Value.none fun f=>rawInt f)
 refine k _ ⟨_,rfl,u1,S.after R₀ R u2 fun a ha=>List.mem_singleton.mp ha▸t3,F.stepX u2 fun a ha=>List.mem_singleton.mp ha▸F.not t6 t7,⟨_,rfl,?_⟩,q⟩
 exact ⟨e,rfl,o,vs,r1,r2.rec fun a b=>⟨a,b⟩,(Heap.get?_update_other _ _ t2).trans r4,r5,r6,_,r7,r8,hb,T,rfl,t2,o',_,t3,t4.rec fun a b=>⟨a,b⟩,u3,trivial,u5,by simp [hsz]⟩
theorem lefts {Mo:Model}{Ev:Value}{s:Shared}{Q:Unit→Shared→Prop}{E':Value→Shared→Prop}(hfr:A.frames=some (env::l))(hL:env.frame=some L)(R₀:SR c g)(h:XE c ⟨A,env::l,X,Fl1 L⟩ g E Ev s)
  (k:∀h',XE c ⟨A,env::l,X,flown⟩ g E Ev {s with heap:=h'}→Q () {s with heap:=h'}):wpAny Mo A (leaving env Ev) Q E' s:=by
 unfold leaving
 exact wpAny_bind (notes hfr hL R₀ h fun h' q=>flights (fun f e=>⟨_,e⟩) R₀ none q fun h'' q=>k h'' q)
theorem Sm.noted {β:Type}{t:Sem β}{N:β→Sg→Prop}(hfr:A.frames=some (env::l))(hL:env.frame=some L)(h:Sm c ⟨A,env::l,X,Fl1 L⟩ t g N E):Sm c ⟨A,env::l,X,FlL L⟩ (t.onRaise fun x=>do noteFrame x env;theTreesLotGoes x) g N E:=fun R₀=>
 wpAny_noted (wpAny_mono (h R₀) (fun _ _ q=>q) fun Ev s' q=>notes hfr hL R₀ q fun h' q'=>q')
end
end Mine
end
section
namespace Mine
open PySem PySem.W PySem.Calls PyProof.Rows PySem.SeqAt
structure Fm where
 A:Around
 l:List Env
 n:Nat
 hd:Bool
structure Fr extends Fm where
 env:Env
 L:Addr
noncomputable def Fr.x (φ:Fr)(X:List Addr):Fx:=⟨φ.A,φ.l,X,Fl1 φ.L⟩
noncomputable def Fm.x (φ:Fm):Fx:=⟨φ.A,φ.l,[],flown⟩
noncomputable abbrev Nms:=List (Str × NameKind)
noncomputable def privOf (env:Env):List Addr:=env.locals::env.cells.map (·.2)
structure OwnAt (g:Sg)(a:Addr):Prop where
 p:Priv g a
 o:∃o,g.at a=some o∧∀vs,o.data≠ .fields vs
structure FR (c:Wo)(env:Env)(nm:Nms)(lc:Loc)(g:Sg):Prop where
 kind:env.scope.kind= .function
 glob:env.globals=mainGlobals
 blt:env.builtins=builtinsNs
 nd:(nm.map (·.1)).Nodup
 names:∀(i:Nat) x k,nm[i]?=some (x,k)→∃k',env.kindOf x=some k'∧(k'=k∨(k= .free∧k'= .cell))
 ns:∃m,g.s.heap.Ns env.locals m∧∀(i:Nat) x k v,nm[i]?=some (x,k)→lat lc i=some v→env.kindOf x=some .local→∃V,m x=some V∧VR c g.m v V
 cell:∀x,(env.kindOf x=some .cell∨env.kindOf x=some .free)→∃a v0,env.cells.lookup x=some a∧g.s.heap.IsCell a v0∧∀(i:Nat) k v,nm[i]?=some (x,k)→lat lc i=some v→∃V,v0=some V∧VR c g.m v V
 priv:∀a∈privOf env,OwnAt g a
 apart:env.locals∉env.cells.map (·.2)∧∀x y c,env.cells.lookup x=some c→env.cells.lookup y=some c→x=y
structure AOk (φ:Fm)(g:Sg):Prop where
 frames:φ.A.frames=some φ.l
 frs:FrsOk g φ.l
 depth:φ.A.depth+4 * φ.n+10 < recursionLimit
 units:φ.A.units+40 * φ.n+400 < cLine
 hnd:if φ.hd then ∃e o vs,φ.A.handled=some (.ref e)∧g.m.Z e=some o∧o.data= .fields vs∧vs[2]?=some .none else φ.A.handled=none
structure Here (c:Wo)(φ:Fr)(nm:Nms)(lc:Loc)(g:Sg):Prop where
 fr:FR c φ.env nm lc g
 ok:AOk φ.toFm g
section
variable {c:Wo}{φ:Fr}{nm:Nms}{lc:Loc}{g g':Sg}{X:List Addr}{l:List Env}{env:Env}
theorem VR.st {v:MV}{V:Value}(r:VR c g.m v V)(S:Step l X g g'):VR c g'.m v V:=r.up S.up
theorem FR.keep (F:FR c env nm lc g)(up:g.m.le g'.m)(k:∀a∈privOf env,∀o,g.at a=some o→∃sl,g'.at a=some {o with slots:=sl})(p:∀a∈privOf env,Priv g' a):FR c env nm lc g':={F with
 ns:=by
  obtain ⟨m,⟨o,es,ep,ho,hr⟩,h⟩:=F.ns
  obtain ⟨sl,e⟩:=k _ (.head _) o ho
  exact ⟨m,⟨_,es,ep,e,hr⟩,fun i x k v hi hl hk=>(h i x k v hi hl hk).imp fun V q=>⟨q.1,q.2.up up⟩⟩
 cell:=fun x hk=>by
  obtain ⟨a,v0,hc,⟨o,ho,hd⟩,h⟩:=F.cell x hk
  obtain ⟨sl,e⟩:=k a (List.mem_cons_of_mem _ (List.mem_map.mpr ⟨_,mem_of_lookup hc,rfl⟩)) o ho
  exact ⟨a,v0,hc,⟨_,e,hd⟩,fun i k v hi hl=>(h i k v hi hl).imp fun V q=>⟨q.1,q.2.up up⟩⟩
 priv:=fun a h=>⟨p a h,(F.priv a h).o.elim fun o q=>(k a h o q.1).elim fun sl e=>⟨_,e,q.2⟩⟩}
theorem FR.step (F:FR c env nm lc g)(S:Step [] X g g')(hx:∀a∈privOf env,a∉X):FR c env nm lc g':=
 F.keep S.up (fun a h o e=>⟨o.slots,(S.kp (F.priv a h).p (hx a h) e).eq⟩) fun a h=>(F.priv a h).o.elim fun o q=>S.priv (F.priv a h).p q.1
theorem AOk.step {φ:Fm}(B:AOk φ g)(S:Step [] X g g')(hx:∀a∈X,∀o,g'.at a=some o→∀vs,o.data≠ .fields vs):AOk φ g':={B with
 frs:=B.frs.step S.x hx
 hnd:=by
  have h:=B.hnd
  cases q:φ.hd with
  | false=>rw [q] at h;exact h
  | true=>rw [q] at h;obtain ⟨e,o,vs,h1,h2,h3⟩:=h;exact ⟨e,o,vs,h1,S.up.z _ _ h2,h3⟩}
theorem Here.step (h:Here c φ nm lc g)(S:Step [] [] g g'):Here c φ nm lc g':=⟨h.fr.step S (fun _ _ h=>nomatch h),h.ok.step S (fun _ h=>nomatch h)⟩
theorem AOk.off {φ:Fm}(B:AOk φ g)(h:φ.hd=false):φ.A.handled=none:=by have:=B.hnd;rw [h] at this;exact this
noncomputable def Stable (g:Sg)(b:Addr):Prop:=(∃o,g.m.Z b=some o)∨∃(j:Nat)(k:Cell),g.m.ρ[j]?=some b∧g.H[j]?=some k∧k.md≠Md.chg
theorem AOk.toHnd {φ:Fm}(B:AOk φ g)(R:SR c g):Hnd φ.A g.s.heap∧∀e∈hndAddr φ.A,Stable g e:=by
 have h:=B.hnd
 cases q:φ.hd with
 | false=>rw [q] at h;exact ⟨.inl h,fun e he=>by unfold hndAddr at he;rw [show φ.A.handled=none from h] at he;cases he⟩
 | true=>
  rw [q] at h
  obtain ⟨e,o,vs,h1,h2,h3,h4⟩:=h
  refine ⟨.inr ⟨e,o,vs,h1,R.z _ _ h2,h3,h4⟩,fun a ha=>?_⟩
  unfold hndAddr at ha;rw [h1] at ha
  exact List.mem_singleton.mp ha▸ .inl ⟨o,h2⟩
theorem Here.roomy (h:Here c φ nm lc g):φ.A.units+400 < cLine:=Nat.lt_of_le_of_lt (Nat.add_le_add_right (Nat.le_add_right _ _) _) h.ok.units
end
structure CallOk (c:Wo)(n:Nat)(call':Bool→(Hp→Prop)→Addr→List MV→Po MV→Hp→Prop):Prop where
 run:∀(φ:Fm) (E:Hp→Prop) a args Vs Q g,φ.n=n→AOk φ g→VRs c g.m args Vs→call' φ.hd E a args Q g.H→Sm c φ.x (call (.ref a) Vs) g (VN c Q) E
 keep:∀hd E a args Q H,call' hd E a args Q H→keepIn c.K (.ref a) =true
structure Bs (c:Wo):Prop where
 wd:Wd c
 kin:c.K.In c.G
 own:∀k,ownC k=true→OwnCl c.K k
structure KOk (c:Wo)(φ:Fr)(K:Kx):Prop where
 base:Bs c
 call:CallOk c φ.n K.cl
 hd:K.hd=φ.hd
theorem KOk.In {c:Wo}{φ:Fr}{K:Kx}(W:KOk c φ K){g:Sg}(R:SR c g):c.K.In g.s.heap:=fun a o e=>R.z a o (R.base a o (W.base.kin a o e))
theorem KOk.quiet {c:Wo}{φ:Fr}{K:Kx}(W:KOk c φ K):KOk c φ K.quiet:=⟨W.base,W.call,W.hd⟩
noncomputable def EOk (c:Wo)(nm:Nms)(e:Expr)(m:Cd MV):Prop:=∀(φ:Fr)(K:Kx)(lc:Loc)(Q:Po MV)(g:Sg),KOk c φ K→Here c φ nm lc g→m K lc Q g.H→Sm c (φ.x []) (eval e φ.env) g (VN c Q) K.E
noncomputable def TOk (c:Wo)(nm:Nms)(e:Expr)(m:Cd Bool):Prop:=∀(φ:Fr)(K:Kx)(lc:Loc)(Q:Po Bool)(g:Sg),KOk c φ K→Here c φ nm lc g→m K lc Q g.H→Sm c (φ.x []) (isTrue e φ.env (eval e φ.env)) g (BN Q) K.E
structure Pl (e:Expr):Prop where
 star:∀es env,starEach (e::es) env= (false,eval e env) ::starEach es env
 mark:∀op,behindInMarks op e=false
noncomputable def AllOk (c:Wo)(nm:Nms)(op:BoolOp)(es:List Expr)(m:Cd Bool):Prop:=∀(φ:Fr)(K:Kx)(lc:Loc)(Q:Po Bool)(g:Sg),KOk c φ K→Here c φ nm lc g→m K lc Q g.H→Sm c (φ.x []) (allTrue op es φ.env) g (BN Q) K.E
noncomputable def BopOk (c:Wo)(nm:Nms)(op:BoolOp)(p:Pos)(es:List Expr)(m:Cd Bool):Prop:=∀(φ:Fr)(K:Kx)(lc:Loc)(Q:Po MV)(g:Sg),KOk c φ K→Here c φ nm lc g→ofT m K lc Q g.H→Sm c (φ.x []) (boolOp p op (evalEach es φ.env)) g (VN c Q) K.E
section
variable {c:Wo}{nm:Nms}{e a b:Expr}{m ma mb:Cd MV}{mt:Cd Bool}{p:Pos}
theorem EOk.lv {i:Nat}{x:Str}{k:NameKind}(hi:nm[i]?=some (x,k))(hk:k= .local∨k= .cell∨k= .free)(hd:(x == ("__debug__":Str)) =false)(hd':(x == ("__classdict__":Str)) =false):EOk c nm (.Name x p) (lv i):=fun φ K lc Q g W h hm R=>by
 have F:=h.fr
 have hm:oM (lat lc i) fun v=>Q v g.H:=hm
 cases hv:lat lc i with
 | none=>rw [hv] at hm;exact hm.elim
 | some v=>
  rw [hv] at hm
  obtain ⟨k',hk',hkq⟩:=F.names i x k hi
  have hk3:k'= .local∨k'= .cell∨k'= .free:=hkq.elim (fun q=>q▸hk) fun q=> .inr (.inl q.2)
  refine wpAny_Name ?_ hd
  rcases hk3 with rfl | rfl | rfl
  ·obtain ⟨m,hns,h⟩:=F.ns
   obtain ⟨V,e,r⟩:=h i x k v hi hv hk'
   exact wpAny_loadName_local F.kind hk' hns e (vn_same R r hm)
  ·obtain ⟨a,v0,hc,hcell,h⟩:=F.cell x (.inl hk')
   obtain ⟨V,rfl,r⟩:=h i k v hi hv
   exact wpAny_loadName_cell F.kind hk' hc hcell (vn_same R r hm)
  ·obtain ⟨a,v0,hc,hcell,h⟩:=F.cell x (.inr hk')
   obtain ⟨V,rfl,r⟩:=h i k v hi hv
   exact wpAny_loadName_free F.kind hk' hc hcell (vn_same R r hm) hd'
noncomputable def GlobAt (c:Wo)(x:Str)(V:Value):Prop:=c.mg x=some V∨(c.mg x=none∧x≠ "__name__"∧bootBuiltins x=some V)
theorem sim_glob {i:Nat}{x:Str}{V:Value}{φ:Fr}{lc:Loc}{g:Sg}{N:Value→Sg→Prop}{E:Hp→Prop}{X:List Addr}(B:Bs c)(hi:nm[i]?=some (x, .globalImplicit))(hd:(x == ("__debug__":Str)) =false)(G:GlobAt c x V)(h:Here c φ nm lc g)(n:N V g):Sm c (φ.x X) (eval (.Name x p) φ.env) g N E:=fun R=>by
 have F:=h.fr
 obtain ⟨k',hk',hkq⟩:=F.names i x _ hi
 have hk:φ.env.kindOf x=some .globalImplicit:=hkq.elim (fun q=>q▸hk') fun q=>nomatch q.1
 have up:∀a o,c.G.get? a=some o→g.at a=some o:=fun a o e=>R.z a o (R.base a o e)
 have hmg:g.s.heap.Ns φ.env.globals c.mg:=F.glob▸B.wd.g.keeps up
 refine Name_function_global F.kind hk ?_ hd
 rcases G with e | ⟨e,hx,e'⟩
 ·exact loadGlobal_global hmg e (nd_same R n)
 ·exact loadGlobal_builtin hmg e (F.blt▸B.wd.b.keeps up) ((B.wd.bl x hx).trans e') (nd_same R n)
theorem EOk.glob {i:Nat}{x:Str}{v:MV}{V:Value}(hi:nm[i]?=some (x, .globalImplicit))(hd:(x == ("__debug__":Str)) =false)(hG:c.mg x=some V)(hv:VR c ⟨c.G.get?,[]⟩ v V):EOk c nm (.Name x p) (cst v):=fun φ K lc Q g W h hm R=>
 sim_glob W.base hi hd (.inl hG) h ⟨v,hv.up ⟨R.base,List.nil_prefix⟩,hm⟩ R
theorem EOk.none {k:Nat}:EOk c nm (.Constant .none k p) (cst .none):=fun φ K lc Q g W h hm=> .pure ⟨.none,rfl,hm⟩
theorem EOk.bool {k:Nat}{b:Bool}:EOk c nm (.Constant (.bool b) k p) (cst (.bool b)):=fun φ K lc Q g W h hm=> .pure ⟨.bool b,rfl,hm⟩
theorem EOk.int {k:Nat}{i:Int}:EOk c nm (.Constant (.int i) k p) (cst (.int i)):=fun φ K lc Q g W h hm R=>wpAny_mkInt (vI R hm)
theorem EOk.str {k:Nat}{s:Str}:EOk c nm (.Constant (.str s) k p) (cst (.str s)):=fun φ K lc Q g W h hm R=>wpAny_mkText (vS R hm)
theorem EOk.bytes {k:Nat}{b:List UInt8}:EOk c nm (.Constant (.bytes b) k p) (cst (.bytes b)):=fun φ K lc Q g W h hm R=>PySem.wpAny_mkTextBytes (nd_tok R ⟨.bytes b,⟨_,rfl⟩,hm⟩)
theorem EOk.neg (ha:EOk c nm a ma):EOk c nm (.UnaryOp .USub a p) (neg ma):=fun φ K lc Q g W h hm=>
 (ha φ K lc _ g W h hm).bind (f:=fun v=>do standAt p;holding [v] (unaryOp .USub v)) fun V g' R S n=> .standAt (.holding fun R=>by
  obtain ⟨v,hv,q⟩:=n
  obtain ⟨i,t,rfl,q⟩:=hv.asInt q
  exact PySem.P.neg_int (vI R q))
theorem EOk.frL (ha:EOk c nm e m):EOk c nm e (frL m):=fun φ K lc Q g W h hm R=>wpAny_mono (ha φ K lc _ g W h hm R) (fun V s q=>by
  obtain ⟨g',rfl,R',S,v,hv,q⟩:=q
  cases v with
  | ref i=>
   obtain ⟨a,rfl,ha⟩:=hv
   obtain ⟨md,xs,hi,hl,q⟩:=q
   have C:=R'.cells i _ a hi ha
   obtain ⟨o,ho,hr⟩:=C.o
   obtain ⟨R2,le⟩:=R'.freezes hi ha ho hr
   obtain ⟨vs,n,rfl,r⟩:=hr
   exact ⟨g'.frz i a (.list xs) (oLst vs n),rfl,R2,S.trans R R' (.freezes R' hi hl ha ho), .lst xs,⟨a,vs,n,rfl,C.sys,zput_at,r.up le⟩,q⟩
  | _=>exact q.elim) fun _ _ q=>q
theorem EOk.frD (ha:EOk c nm e m):EOk c nm e (frD m):=fun φ K lc Q g W h hm R=>wpAny_mono (ha φ K lc _ g W h hm R) (fun V s q=>by
  obtain ⟨g',rfl,R',S,v,hv,q⟩:=q
  cases v with
  | ref i=>
   obtain ⟨a,rfl,ha⟩:=hv
   obtain ⟨md,xs,hi,hl,q⟩:=q
   have C:=R'.cells i _ a hi ha
   obtain ⟨o,ho,hr⟩:=C.o
   obtain ⟨R2,le⟩:=R'.freezes hi ha ho hr
   obtain ⟨kvs,i',r⟩:=hr
   exact ⟨g'.frz i a (.dict xs) o,rfl,R2,S.trans R R' (.freezes R' hi hl ha ho), .dct xs,⟨a,o,kvs,rfl,C.sys,zput_at,i',r.up le⟩,q⟩
  | _=>exact q.elim) fun _ _ q=>q
theorem EOk.bin (op:Bo)(ha:EOk c nm a ma)(hb:EOk c nm b mb):EOk c nm (.BinOp a op.at b p) (bin op ma mb):=fun φ K lc Q g W h hm=>
 (ha φ K lc _ g W h hm).bind (f:=fun v=>do let u ← holding [v] (eval b φ.env);standAt p;operate [v,u] (binaryOp op.at v u)) fun V g' R S n=>by
  obtain ⟨v,hv,hm⟩:=n
  refine (Sm.holding (hb φ K lc _ g' W (h.step S) hm)).bind fun U g2 R2 S2 n=>?_
  obtain ⟨u,hu,q⟩:=n
  exact .standAt (.operate (sim_bin W.base.wd op (hv.st S2) hu q))
theorem TOk.of (h1:∀env,isTrue e env (eval e env) = (eval e env >>= fun v=>standAt e.pos >>= fun _=>holding [v] (truthy v)))(he:EOk c nm e m):TOk c nm e (tv m):=fun φ K lc Q g W h hm=>by
 rw [h1]
 refine (he φ K lc _ g W h hm).bind fun V g' R S n=> .standAt (.holding fun R=>?_)
 obtain ⟨v,hv,q⟩:=n
 obtain ⟨b,rfl,q⟩:=hv.asBool q
 exact wpAny_truthy_bool (nd_same R q)
theorem TOk.not (ha:TOk c nm a mt):TOk c nm (.UnaryOp .Not a p) (tNot mt):=fun φ K lc Q g W h hm=>
 (ha φ K lc _ g W h hm).bind (f:=fun b=>pure (!b)) fun b g' R S n=> .pure n
theorem EOk.not (ha:EOk c nm a ma):EOk c nm (.UnaryOp .Not a p) (ofT (tNot (tv ma))):=fun φ K lc Q g W h hm=>
 (ha φ K lc _ g W h hm).bind (f:=fun v=>do standAt p;holding [v] (unaryOp .Not v)) fun V g' R S n=> .standAt (.holding fun R=>by
  obtain ⟨v,hv,q⟩:=n
  obtain ⟨b,rfl,q⟩:=hv.asBool q
  unfold unaryOp
  exact wpAny_holding (wpAny_bind (wpAny_truthy_bool (wpAny_pure (nd_same R ⟨.bool (!b),rfl,q⟩)))))
theorem EOk.ite {t:Expr}(ht:TOk c nm t mt)(ha:EOk c nm a ma)(hb:EOk c nm b mb):EOk c nm (.IfExp t a b p) (tIf mt ma mb):=fun φ K lc Q g W h hm=>
 show Sm c (φ.x []) (PySem.isTrue t φ.env (eval t φ.env) >>= fun c=>if c then eval a φ.env else eval b φ.env) g _ _ from (ht φ K lc _ g W h hm).bind fun c g' R S n=>by
  cases c with
  | true=>exact ha φ K lc Q g' W (h.step S) n
  | false=>exact hb φ K lc Q g' W (h.step S) n
noncomputable def tfl:Cd Bool:=fun _ _ Q=>Q false
theorem AllOk.nil_and:AllOk c nm .And [] yes:=fun φ K lc Q g W h hm=> .pure hm
theorem AllOk.nil_or:AllOk c nm .Or [] tfl:=fun φ K lc Q g W h hm=> .pure hm
theorem BopOk.one {op:BoolOp}(he:EOk c nm e m):BopOk c nm op p [e] (tv m):=fun φ K lc Q g W h hm=>
 (he φ K lc _ g W h hm).mono fun V g' R S n=>n.rec fun v hv q=>(hv.asBool q).elim fun b q=>⟨.bool b,q.1,q.2⟩
theorem AllOk.cons_and {es:List Expr}(ht:TOk c nm e mt){mr:Cd Bool}(hr:AllOk c nm .And es mr):AllOk c nm .And (e::es) (tAnd mt mr):=fun φ K lc Q g W h hm=>by
 have e1:allTrue .And (e::es) φ.env= (PySem.isTrue e φ.env (eval e φ.env) >>= fun b=>match BoolOp.And,b with
   | .And,false=>pure false
   | .Or,true=>pure true
   | _,_=>allTrue .And es φ.env):=by rfl
 rw [e1]
 refine (ht φ K lc _ g W h hm).bind fun b g' R S n=>?_
 cases b with
 | true=>exact hr φ K lc Q g' W (h.step S) n
 | false=>exact .pure n
theorem BopOk.cons_and {e2:Expr}{es:List Expr}{mr:Cd Bool}(he:EOk c nm e m)(hr:BopOk c nm .And p (e2::es) mr):BopOk c nm .And p (e::e2::es) (tAnd (tv m) mr):=fun φ K lc Q g W h hm=>by
 refine (he φ K lc _ g W h hm).bind (f:=fun v=>do
   standAt p
   let t ← holding [v] (truthy v)
   match BoolOp.And,t with
   | .And,false | .Or,true=>pure v
   | _,_=>boolOp p .And (evalEach (e2::es) φ.env)) fun V g' R S n=> .standAt ?_
 obtain ⟨v,hv,q⟩:=n
 obtain ⟨b,rfl,q⟩:=hv.asBool q
 refine Sm.bind (N:=fun b' g2=>b'=b∧g2=g') (.holding fun R=>wpAny_truthy_bool (nd_same R ⟨rfl,rfl⟩)) fun b' g2 R2 S2 e=>?_
 obtain ⟨rfl,rfl⟩:=e
 cases b' with
 | true=>exact hr φ K lc Q g2 W (h.step S) q
 | false=>exact .pure ⟨.bool false,rfl,q⟩
theorem AllOk.cons_or {es:List Expr}(ht:TOk c nm e mt){mr:Cd Bool}(hr:AllOk c nm .Or es mr):AllOk c nm .Or (e::es) (tOr mt mr):=fun φ K lc Q g W h hm=>by
 have e1:allTrue .Or (e::es) φ.env= (PySem.isTrue e φ.env (eval e φ.env) >>= fun b=>match BoolOp.Or,b with
   | .And,false=>pure false
   | .Or,true=>pure true
   | _,_=>allTrue .Or es φ.env):=by rfl
 rw [e1]
 refine (ht φ K lc _ g W h hm).bind fun b g' R S n=>?_
 cases b with
 | false=>exact hr φ K lc Q g' W (h.step S) n
 | true=>exact .pure n
theorem BopOk.cons_or {e2:Expr}{es:List Expr}{mr:Cd Bool}(he:EOk c nm e m)(hr:BopOk c nm .Or p (e2::es) mr):BopOk c nm .Or p (e::e2::es) (tOr (tv m) mr):=fun φ K lc Q g W h hm=>by
 refine (he φ K lc _ g W h hm).bind (f:=fun v=>do
   standAt p
   let t ← holding [v] (truthy v)
   match BoolOp.Or,t with
   | .And,false | .Or,true=>pure v
   | _,_=>boolOp p .Or (evalEach (e2::es) φ.env)) fun V g' R S n=> .standAt ?_
 obtain ⟨v,hv,q⟩:=n
 obtain ⟨b,rfl,q⟩:=hv.asBool q
 refine Sm.bind (N:=fun b' g2=>b'=b∧g2=g') (.holding fun R=>wpAny_truthy_bool (nd_same R ⟨rfl,rfl⟩)) fun b' g2 R2 S2 e=>?_
 obtain ⟨rfl,rfl⟩:=e
 cases b' with
 | false=>exact hr φ K lc Q g2 W (h.step S) q
 | true=>exact .pure ⟨.bool true,rfl,q⟩
theorem TOk.bop {op:BoolOp}{es:List Expr}(h:AllOk c nm op es mt):TOk c nm (.BoolOp op es p) mt:=h
theorem EOk.bop {op:BoolOp}{es:List Expr}(h:BopOk c nm op p es mt):EOk c nm (.BoolOp op es p) (ofT mt):=h
end
end Mine
end
section
namespace Mine
open PySem PySem.W PySem.Calls PyProof.Rows PySem.SeqAt
section
variable {c:Wo}{nm:Nms}{e a b o:Expr}{m ma mb mo:Cd MV}{p:Pos}
theorem marked {op:CmpOp}{t:Sem Value}(h:Pl e):markedBehindIn op e t=t:=by unfold markedBehindIn;rw [h.mark op]
theorem cmp_at {φ:Fr}{K:Kx}{lc:Loc}{g:Sg}{V:Value}{v:MV}{Q:Po Bool}(op:Cm)(W:KOk c φ K)(h:Here c φ nm lc g)(hp:Pl b)(hb:EOk c nm b mb)(hv:VR c g.m v V)(hm:mb K lc (fun y h=>cmpM op v y h fun r=>Q r h) g.H) :
  Sm c (φ.x []) (holding [V] (markedBehindIn op.at b (eval b φ.env)) >>= fun U=>standAt p >>= fun _=>operate [V,U] (compareOp op.at V U)) g (BV Q) K.E:=by
 rw [marked hp]
 refine (Sm.holding (hb φ K lc _ g W h hm)).bind fun U g' R S n=> .standAt (.operate ?_)
 obtain ⟨u,hu,q⟩:=n
 exact sim_cmp op h.roomy (hv.st S) hu q
theorem EOk.cmp (op:Cm)(hp:Pl b)(ha:EOk c nm a ma)(hb:EOk c nm b mb):EOk c nm (.Compare a [op.at] [b] p) (ofT (tCmp op ma mb)):=fun φ K lc Q g W h hm=>
 (ha φ K lc _ g W h hm).bind (f:=fun V=>compareChain p V [op.at] [markedBehindIn op.at b (eval b φ.env)]) fun V g' R S n=>n.rec fun v hv q=>
  (cmp_at op W (h.step S) hp hb hv q).mono fun V g' _ _ n=>n.rec fun b e q=>⟨.bool b,e,q⟩
theorem test_at {φ:Fr}{K:Kx}{lc:Loc}{g:Sg}{V:Value}{v:MV}{Q:Po Bool}(op:Cm)(W:KOk c φ K)(h:Here c φ nm lc g)(hp:Pl b)(hb:EOk c nm b mb)(hv:VR c g.m v V)(hm:mb K lc (fun y h=>cmpM op v y h fun r=>Q r h) g.H) :
  Sm c (φ.x []) (testChain p V [op.at] [markedBehindIn op.at b (eval b φ.env)]) g (BN Q) K.E:=by
 show Sm c _ (holding [V] (markedBehindIn op.at b (eval b φ.env)) >>= fun U=>standAt p >>= fun _=>operate [V,U] (compareOp op.at V U) >>= fun x=>holding [x] (truthy x)) g _ _
 rw [marked hp]
 refine (Sm.holding (hb φ K lc _ g W h hm)).bind fun U g' R S n=> .standAt ?_
 obtain ⟨u,hu,q⟩:=n
 exact (Sm.operate (sim_cmp op h.roomy (hv.st S) hu q)).bind fun V g' R S n=>n.rec fun b e q=> .holding fun R=>e▸wpAny_truthy_bool (nd_same R q)
theorem TOk.cmp (op:Cm)(hp:Pl b)(ha:EOk c nm a ma)(hb:EOk c nm b mb):TOk c nm (.Compare a [op.at] [b] p) (tCmp op ma mb):=fun φ K lc Q g W h hm=>
 (ha φ K lc _ g W h hm).bind (f:=fun V=>testChain p V [op.at] [markedBehindIn op.at b (eval b φ.env)]) fun V g' R S n=>n.rec fun v hv q=>test_at op W (h.step S) hp hb hv q
theorem TOk.cmp2 {d:Expr}{md:Cd MV}(op op':Cm)(hp:Pl d)(ha:EOk c nm a ma)(hb:EOk c nm b mb)(hd:EOk c nm d md):TOk c nm (.Compare a [op.at,op'.at] [b,d] p) (tCmp2 op ma mb op' md):=fun φ K lc Q g W h hm=>
 (ha φ K lc _ g W h hm).bind (f:=fun V=>do
   let rv ← holding [V] (eval b φ.env)
   standAt p
   let c ← holding [V,rv] (compareOp op.at V rv)
   release [V,rv] [c]
   if ← holding [c,rv] (truthy c) then testChain p rv [op'.at] [markedBehindIn op'.at d (eval d φ.env)] else pure false) fun V g1 R1 S1 n=>by
  obtain ⟨v,hv,q⟩:=n
  have h1:=h.step S1
  refine (Sm.holding (hb φ K lc _ g1 W h1 q)).bind fun U g2 R2 S2 n=> .standAt ?_
  obtain ⟨u,hu,q⟩:=n
  have h2:=h1.step S2
  refine (Sm.holding (sim_cmp (Q:=fun r h=>bif r then md K lc (fun z h=>cmpM op' u z h fun r=>Q r h) h else Q false h) op h2.roomy (hv.st S2) hu q)).bind fun C g3 R3 S3 n=>?_
  obtain ⟨r,rfl,q⟩:=n
  refine Sm.tree (t:=if r then testChain p U [op'.at] [markedBehindIn op'.at d (eval d φ.env)] else pure false) ?_ fun Q E s q=>wpAny_bind (wpAny_release (wpAny_bind (wpAny_holding (wpAny_truthy_bool q))))
  cases r with
  | false=>exact .pure q
  | true=>exact test_at op' W (h2.step S3) hp hd (hu.st S3) q
structure EsSh (es:List Expr):Prop where
 plain:∀p env,(backTo p (starEach es env)).any (·.1) =false
 shape:es= []∨∃e r,es=e::r∧Pl e
theorem EsSh.nil:EsSh []:=⟨fun _ _=>rfl, .inl rfl⟩
theorem EsSh.cons {es:List Expr}(hp:Pl e)(hs:EsSh es):EsSh (e::es):=⟨fun p env=>by
  rw [hp.star]
  show (false || (backTo p (starEach es env)).any (·.1)) =false
  rw [hs.plain];rfl, .inr ⟨e,es,rfl,hp⟩⟩
structure EsOk (c:Wo)(nm:Nms)(es:List Expr)(ms:Cd (List MV)):Prop extends EsSh es where
 run:∀(φ:Fr) (K:Kx) (lc:Loc) (Q:Po (List MV)) (g:Sg) (p:Pos),KOk c φ K→Here c φ nm lc g→ms K lc Q g.H→Sm c (φ.x []) (spliced (backTo p (starEach es φ.env))) g (fun Vs g'=>Vs.length=es.length∧VsN c Q Vs g') K.E
theorem EsOk.nil:EsOk c nm [] (evs []):=⟨.nil,fun φ K lc Q g p W h hm=> .pure ⟨rfl,[],rfl,hm⟩⟩
theorem EsOk.cons {es:List Expr}{ms:List (Cd MV)}(hp:Pl e)(he:EOk c nm e m)(hs:EsOk c nm es (evs ms)):EsOk c nm (e::es) (evs (m::ms)) where
 run:=fun φ K lc Q g p W h hm=>by
  have e2:spliced (backTo p (starEach (e::es) φ.env)) = (eval e φ.env >>= fun v=>holding [v] (spliced (backTo p (starEach es φ.env))) >>= fun vs=>pure ([v] ++ vs)):=by
   rw [hp.star]
   show spliced ((false,eval e φ.env) ::backTo p (starEach es φ.env)) =_
   conv=>lhs;unfold spliced
   simp
  rw [e2]
  refine (he φ K lc _ g W h hm).bind fun V g' R S n=>?_
  obtain ⟨v,hv,q⟩:=n
  refine (Sm.holding (hs.run φ K lc _ g' p W (h.step S) q)).bind fun Vs g2 R2 S2 n=>?_
  exact .pure ⟨congrArg (· +1) n.1,n.2.rec fun vs hvs q=>⟨v::vs,⟨V,Vs,rfl,hv.st S2,hvs⟩,q⟩⟩
 toEsSh:= .cons hp hs.toEsSh
theorem EOk.list {es:List Expr}{ms:List (Cd MV)}{mu:Bool}(hs:EsOk c nm es (evs ms)):EOk c nm (.List es p) (lstC mu ms):=fun φ K lc Q g W h hm=>
 .standAt ((hs.run φ K lc _ g p W h hm).bind (f:=newList) fun Vs g' R S n=>n.2.rec fun vs hvs q=>sim_newList W.base.wd hvs q)
theorem EOk.tup {es:List Expr}{ms:List (Cd MV)}{k:Nat}(hl:es.length≤100)(hs:EsOk c nm es (evs ms)):EOk c nm (.Tuple es k p) (tupC ms):=fun φ K lc Q g W h hm=>
 .standAt ((hs.run φ K lc _ g p W h hm).bind (f:=newTuple) fun Vs g' R S n=>n.2.rec fun vs hvs q=>sim_newTuple W.base.wd hvs (n.1▸Nat.le_trans hl (by decide)) q)
structure PsOk (c:Wo)(nm:Nms)(p:Pos)(ks:List (Option Expr))(es:List Expr)(ms:Cd Dict)(ts:Env→List (Sem Value × Sem Value)):Prop where
 run:∀(φ:Fr) (K:Kx) (lc:Loc) (Q:Po Dict) (g:Sg),KOk c φ K→Here c φ nm lc g→ms K lc Q g.H→Sm c (φ.x []) (evalPairs (ts φ.env)) g (fun us g'=>∃es kvs,Carries c.kd us kvs∧PR c g'.m es kvs∧Q es g'.H) K.E
 shape:∀env,(evalEachOpt ks env).zip ((evalEach es env).map fun v=>do let x ← v;standAt p;pure x) = (ts env).map (fun p=>(some p.1,p.2))
 len:∀env,(ts env).length=ks.length
theorem PsOk.nil:PsOk c nm p [] [] (prs []) (fun _=>[]):=⟨fun φ K lc Q g W h hm=> .pure ⟨[],[],trivial,rfl,hm⟩,fun _=>rfl,fun _=>rfl⟩
theorem PsOk.cons {k v:Expr}{mk mv:Cd MV}{ks:List (Option Expr)}{es:List Expr}{ms:List (Cd MV × Cd MV)}{ts:Env→List (Sem Value × Sem Value)}(hk:EOk c nm k mk)(hv:EOk c nm v mv)(hs:PsOk c nm p ks es (prs ms) ts) :
  PsOk c nm p (some k::ks) (v::es) (prs ((mk,mv) ::ms)) (fun env=>(eval k env,do let x ← eval v env;standAt p;pure x) ::ts env) where
 run:=fun φ K lc Q g W h hm=>by
  show Sm c _ (eval k φ.env >>= fun kv=>holding [kv] (eval v φ.env >>= fun x=>standAt p >>= fun _=>pure x) >>= fun vv=>holding [kv,vv] (evalPairs (ts φ.env)) >>= fun r=>pure ((kv,vv) ::r)) g _ _
  refine (hk φ K lc _ g W h hm).bind fun KV g1 R1 S1 n=>?_
  obtain ⟨kv,hkv,q⟩:=n
  have h1:=h.step S1
  refine (Sm.holding ((hv φ K lc _ g1 W h1 q).tree fun Q E s q=>wpAny_bind (wpAny_mono q (fun _ _ q=>wpAny_bind (wpAny_standAt (wpAny_pure q))) fun _ _ q=>q))).bind fun VV g2 R2 S2 n=>?_
  obtain ⟨vv,hvv,q⟩:=n
  obtain ⟨k',hk',q⟩:=(hkv.st S2).asKey q
  refine (Sm.holding (hs.run φ K lc _ g2 W (h1.step S2) q)).bind fun us g3 R3 S3 n=>?_
  obtain ⟨es,kvs,n1,n2,q⟩:=n
  exact .pure ⟨(k',vv) ::es,(k',VV) ::kvs,⟨hk',rfl,n1⟩,⟨VV,kvs,rfl,hvv.st S3,n2⟩,q⟩
 shape:=fun env=>by
  have e1:evalEachOpt (some k::ks) env=some (eval k env) ::evalEachOpt ks env:=rfl
  have e2:evalEach (v::es) env=eval v env::evalEach es env:=rfl
  rw [e1,e2,List.map_cons,List.zip_cons_cons,hs.shape];rfl
 len:=fun env=>congrArg (· +1) (hs.len env)
theorem EOk.dict0 {mu:Bool}:EOk c nm (.Dict [] [] p) (dctC mu []):=fun φ K lc Q g W h hm R=>
 wpAny_Dict_empty (nd_mkDict (es:=[]) (kvs:=[]) (t:=g.s.toks) R push_keep (Heap.DictOf.new g.s.heap) (push_none _) (R.not_sys W.base.wd (push_none _)) rfl hm)
theorem EOk.dict {ks:List (Option Expr)}{es:List Expr}{ms:List (Cd MV × Cd MV)}{mu:Bool}{ts:Env→List (Sem Value × Sem Value)}(h0:ks≠ [])(h15:ks.length≤15)(hs:PsOk c nm p ks es (prs ms) ts):EOk c nm (.Dict ks es p) (dctC mu ms):=fun φ K lc Q g W h hm R=>by
 have hn:=push_none g.s.heap
 have hl:=hs.len φ.env
 refine wpAny_Dict_pairs (knd:=c.kd) (hs.shape φ.env) (fun q=>h0 (List.length_eq_zero_iff.mp (by rw [← hl,q];rfl))) (by omega) ?_
 have S0:Step [] [] g (g.on (g.s.heap.push {cls:= .type "dict",data:= .dict #[]}) g.s.toks):= .of_ext push_keep
 have R0:SR c (g.on (g.s.heap.push {cls:= .type "dict",data:= .dict #[]}) g.s.toks):=R.of_ext push_keep
 have hD:(g.on (g.s.heap.push {cls:= .type "dict",data:= .dict #[]}) g.s.toks).at g.s.heap.objs.size=some {cls:= .type "dict",data:= .dict #[]}:=Heap.get?_push_size _ rfl
 have pD:Priv (g.on (g.s.heap.push {cls:= .type "dict",data:= .dict #[]}) g.s.toks) g.s.heap.objs.size:=(R.absent hn).rec fun a b=>⟨a,b⟩
 refine wpAny_mono (hs.run φ K lc _ _ W (h.step S0) hm R0) (fun us s q=>?_) fun e s q=>q.xsince S0 R R0
 obtain ⟨g1,rfl,R1,S1,es',kvs,n1,n2,q⟩:=q
 have p1:=S1.priv pD hD
 have e1:=(S1.kp pD (nofun) hD).eq
 refine ⟨kvs,n1,(Heap.DictOf.new g.s.heap).at fun o e=>(S1.kp pD (nofun) e).eq,fun h' hd' hsb=>?_⟩
 obtain ⟨o,ho,hd⟩:=Heap.dictOf_iff.mp hd'
 have k:∀a o,g1.at a=some o→a∉ [g.s.heap.objs.size]→h'.get? a=some o:=fun a o e ha=>hsb.extBut a o (fun q=>ha (q▸ .head _)) e
 have hpr:∀a∈ [g.s.heap.objs.size],Priv g1 a:=fun a ha=>List.mem_singleton.mp ha▸p1
 have R2:SR c (g1.on h' (g1.s.toks+us.length)):=R1.of_but k hpr
 have S2:Step [] [] g (g1.on h' (g1.s.toks+us.length)):=(S0.trans R R0 S1).after R R1 (.of_but k fun a ha o' _=>List.mem_singleton.mp ha▸⟨o,ho⟩) fun a ha=>List.mem_singleton.mp ha▸hn
 have p2:Priv (g1.on h' (g1.s.toks+us.length)) g.s.heap.objs.size:=p1.rec fun a b=>⟨a,b⟩
 have hpr:=PR.puts (x:=[]) (v:=[]) rfl n2
 have hq:mkDict mu (dputs [] es') Q g1.H:=q
 cases mu with
 | false=>exact ⟨_,rfl,R2.frozen ho p2,S2.frozen p2 hn, .dct (dputs [] es'),⟨_,o,_,rfl,R.not_sys W.base.wd hn,zput_at,hd,hpr.up (fz_priv (g:=g1.on h' (g1.s.toks+us.length)) p2)⟩,hq.2⟩
 | true=>exact ⟨_,rfl,R2.celled (m:= .dict (dputs [] es')) ho p2 (R.not_sys W.base.wd hn) ⟨_,hd,hpr⟩,S2.celled hn, .ref g1.H.length,⟨_,rfl,by
   show (g1.m.ρ ++ [_])[g1.H.length]?=_
   rw [← R1.len,List.getElem?_concat_length]⟩,hq.2⟩
end
end Mine
end
section
namespace Mine
open PySem PySem.W PySem.Calls PyProof.Rows PySem.SeqAt
section
variable {c:Wo}{nm:Nms}{e a b o i:Expr}{m ma mb mo mi:Cd MV}{p:Pos}
noncomputable def Bare (o:Expr):Prop:=∀x env (whole:Sem Value),attributeBase o x env whole=whole
theorem Sm.temp {φ:Fx}{g:Sg}{E:Hp→Prop}{N:Value→Sg→Prop}{base:Expr}{o:Value}{t:Sem Value}(h:Sm c φ t g N E):Sm c φ (t >>= fun r=>letTemporaryGo base o r >>= fun _=>Pure.pure r) g N E:=fun R=>
 wpAny_bind (wpAny_mono (h R) (fun r s' q=>wpAny_bind (wpAny_letTemporaryGo (wpAny_pure q))) fun _ _ q=>q)
theorem EOk.fd {k:Addr}{j:Nat}{x:Str}(hb:Bare o)(F:FldOk c k j x)(ho:EOk c nm o mo):EOk c nm (.Attribute o x p) (fd k j mo):=fun φ K lc Q g W h hm=>by
 show Sm c _ (attributeBase o x φ.env (eval o φ.env) >>= fun v=>standAt p.atName >>= fun _=>holding [v] (getAttr v x true) >>= fun r=>letTemporaryGo o v r >>= fun _=>Pure.pure r) g _ _
 rw [hb]
 refine (ho φ K lc _ g W h hm).bind fun V g' R S n=>n.rec fun v hv q=> .standAt (.temp (.holding fun R=>sim_attr (W.In R) F hv q R))
theorem inPython_no {Mo:Model}{A:Around}{s:Shared}{E:Value→Shared→Prop}{o:Value}{T id:String}{Q:Bool→Shared→Prop}(hT:s.TypeIs o T)(hl:typeLookup (.type T) "__getitem__"=pure (some (.builtin id)))(h:Q false s):wpAny Mo A (getitemInPython o) Q E s:=by
 rw [getitemInPython_of_ne hT.not_modules]
 exact wpAny_bind (wpAny_specialOf hT hl (wpAny_pure h))
theorem inPython_obj {Mo:Model}{A:Around}{g:Sg}{E:Value→Shared→Prop}{Q:Bool→Shared→Prop}{a:Addr}{o:MO}{b:Obj}(h1:g.at a=some b)(h2:OR c g.m o b)(h:Q false g.s):wpAny Mo A (getitemInPython (.ref a)) Q E g.s:=by
 cases o with
 | list xs=>exact h2.rec fun vs n e r=>inPython_no (isList (e▸h1)).typeIs slot_list_getitem.lookup h
 | dict es=>exact h2.rec fun kvs i r=>inPython_no (Heap.dictOf_iff.mpr ⟨b,h1,i⟩:g.s.heap.DictOf c.kd a kvs).typeIs slot_dict_getitem.lookup h
theorem inPython_item {Mo:Model}{A:Around}{g:Sg}{E:Value→Shared→Prop}{Q:Bool→Shared→Prop}{v k:MV}{V:Value}{P:MV→Prop}(R:SR c g)(hv:VR c g.m v V)(hm:itemM v k g.H P)(h:Q false g.s):wpAny Mo A (getitemInPython V) Q E g.s:=by
 have gen:Mine.deref v g.H (fun o=>match o with
  | .list xs=>atM xs k P
  | .dict es=>Mine.asKey k fun k=>∃x,dlook es k=some x∧P x)→wpAny Mo A (getitemInPython V) Q E g.s:=fun hd=>by
  obtain ⟨a,o,b,rfl,h1,h2,_⟩:=R.deref hv hd
  exact inPython_obj h1 h2 h
 cases v with
 | tup ys=>exact hv.rec fun a vs n e _ z r=>e▸inPython_no (isTuple (R.z _ _ z)).typeIs slot_tuple_getitem.lookup h
 | _=>exact gen hm
noncomputable def Sub (i:Expr):Prop:=∀V I,subscripted i false V I=operate [V,I] (getItem V I)
theorem EOk.item (hi':Sub i)(ho:EOk c nm o mo)(hi:EOk c nm i mi):EOk c nm (.Subscript o i p) (itm mo mi):=fun φ K lc Q g W h hm=>by
 rw [eval_Subscript]
 refine (ho φ K lc _ g W h hm).bind fun V g1 R1 S1 n=>?_
 obtain ⟨v,hv,q⟩:=n
 refine (Sm.holding (hi φ K lc _ g1 W (h.step S1) q)).bind fun I g2 R2 S2 n=> .standAt fun R=>?_
 obtain ⟨k,hk,q⟩:=n
 refine wpAny_bind (inPython_item R (hv.st S2) q ?_)
 rw [hi']
 exact Sm.temp (.operate (sim_item (hv.st S2) hk q)) R
theorem unhold {Mo:Model}{A:Around}{β δ:Type}{s:Shared}{E:Value→Shared→Prop}{vs:List Value}{t:Sem β}{k:β→Sem δ}{Q:δ→Shared→Prop}(h:wpAny Mo A (t >>= k) Q E s):wpAny Mo A (holding vs t >>= k) Q E s:=fun Γ p hΓ=>by
 rw [Sem.wp_bind',Sem.wp_holding,← Sem.wp_bind'];exact h Γ p hΓ
theorem sim_slice {φ:Fx}{g:Sg}{E:Hp→Prop}{Q:Po MV}{v n:MV}{V N:Value}(W:Wd c)(hv:VR c g.m v V)(hi:VR c g.m n N)(h:takeM v n g.H fun x=>Q x g.H) :
  Sm c φ (newFields "slice" [.none,N, .none] >>= fun i=>standAt p >>= fun _=>getitemInPython V >>= fun b=>operate [i,V] (getItem V i)) g (VN c Q) E:=fun R=>by
 obtain ⟨a,xs,vs,k,rfl,h1,r,hs,h⟩:=R.derL hv h
 obtain ⟨_,t,rfl,j,rfl,hl,q⟩:=hi.asInt h
 have hl':=isList h1
 refine wpAny_bind (wpAny_newObj_type (wpAny_bind (wpAny_standAt (wpAny_bind (inPython_no (hl'.push _).typeIs slot_list_getitem.lookup (wpAny_operate' ?_))))))
 refine wpAny_getItem_list_slice (hl'.push _) (Heap.IsSliceOf.new ..) .none (.int _ _) .none (by simp) ?_ (by rw [List.size_toArray,← r.length];exact sizeMost_le hl)
 rw [slice_take]
 have hn:∀o:Obj,g.at (g.s.heap.push o).objs.size=none:=fun o=>Heap.get?_none_of_le (by rw [Heap.size_push];exact Nat.le_succ _)
 exact nd_frozen R (fun a o e=>Heap.get?_push_of_some _ (push_keep a o e)) (Heap.get?_push_size _ rfl) (hn _) fun le=>⟨.lst (xs.take j),⟨_,vs.take j,_,rfl,R.not_sys W (hn _),zput_at,(r.take j).up le⟩,q⟩
theorem EOk.take {q:Pos}(ho:EOk c nm o mo)(hi:EOk c nm i mi):EOk c nm (.Subscript o (.Slice Option.none (some i) Option.none q) p) (tke mo mi):=fun φ K lc Q g W h hm=>by
 rw [eval_Subscript]
 refine (ho φ K lc _ g W h hm).bind fun V g1 R1 S1 n=>?_
 obtain ⟨v,hv,hm⟩:=n
 have e4:eval (.Slice Option.none (some i) Option.none q) φ.env= (pure Value.none >>= fun l=>holding [l] (eval i φ.env) >>= fun u=>holding [l,u] (pure Value.none) >>= fun s=>newFields "slice" [l,u,s]):=rfl
 rw [e4,pure_bind]
 refine Sm.tree (t:=holding [.none] (eval i φ.env) >>= fun u=>holding [.none,u] (pure Value.none) >>= fun s=>newFields "slice" [.none,u,s] >>= fun i=>standAt p >>= fun _=>getitemInPython V >>= fun b=>operate [i,V] (getItem V i) >>= fun r=>letTemporaryGo o V r >>= fun _=>pure r) ?_
  fun Q E s h=>unhold (by simp only [bind_assoc];exact h)
 refine (Sm.holding (hi φ K lc _ g1 W (h.step S1) hm)).bind fun I g2 R2 S2 n=>?_
 obtain ⟨k,hk,hm⟩:=n
 refine Sm.tree (Sm.temp (base:=o) (o:=V) (sim_slice (p:=p) W.base.wd (hv.st S2) hk hm)) fun Q' E s q=>?_
 refine unhold ?_
 rw [pure_bind]
 simpa only [bind_assoc] using q
theorem callW {Mo:Model}{A:Around}{s:Shared}{E:Value→Shared→Prop}{env:Env}{Pr:Heap→Prop}{f:Value}{first:List Value}{args:List Expr}{Q:Value→Shared→Prop}(hs:EsSh args)
  (hk:∀h,Pr h→∃k,(k=Keeper.frame∨k=Keeper.machine∨k=Keeper.boundFrame)∧Looks Mo h (keeperOf f) k)
  (h:wpAny Mo A (spliced (backTo p (starEach args env))) (fun vs s₁=>Pr s₁.heap∧wpAny Mo A (PySem.call f (first ++ vs)) Q E s₁) E s) :
  wpAny Mo A (callWith p f first (backTo p (starEach args env)) []) Q E s:=by
 refine callWith_of (by rw [hs.plain];rfl) hk ?_
 rcases hs.shape with rfl | ⟨e,es,rfl,hp⟩
 ·have e:backTo p (starEach [] env) = []:=rfl
  rw [e] at h ⊢
  unfold evalArgs
  exact wpAny_bind (wpAny_mono h (fun vs s' h'=>wpAny_bind (wpAny_pure (wpAny_holding (wpAny_bind (wpAny_pure (wpAny_bind (wpAny_pure (wpAny_pure h')))))))) fun _ _ x=>x)
 ·rw [hp.star] at h ⊢
  exact evalArgs_plain h
theorem keeps_machine {Mo:Model}{f:Value}(h:∀a,f≠ .ref a):∀hp:Heap,True→∃k,(k=Keeper.frame∨k=Keeper.machine∨k=Keeper.boundFrame)∧Looks Mo hp (keeperOf f) k:=fun hp _=>
 ⟨.machine, .inr (.inl rfl),by
  unfold keeperOf
  cases f with
  | ref a=>exact absurd rfl (h a)
  | _=>exact .now⟩
theorem call_args {φ:Fr}{K:Kx}{lc:Loc}{g:Sg}{Q:Po MV}{Pr:Heap→Prop}{f:Value}{first:List Value}{args:List Expr}{ms:Cd (List MV)}{P:Po (List MV)}(hs:EsOk c nm args ms)
  (hk:∀h,Pr h→∃k,(k=Keeper.frame∨k=Keeper.machine∨k=Keeper.boundFrame)∧Looks (model c.prog c.w) h (keeperOf f) k) (W:KOk c φ K) (h:Here c φ nm lc g) (hm:ms K lc P g.H)
  (hc:∀vs Vs g',SR c g'→Here c φ nm lc g'→Step [] [] g g'→VRs c g'.m vs Vs→P vs g'.H→Pr g'.s.heap∧Sm c φ.toFm.x (PySem.call f (first ++ Vs)) g' (VN c Q) K.E):Sm c (φ.x []) (callWith p f first (backTo p (starEach args φ.env)) []) g (VN c Q) K.E:=fun R=>
 callW hs.toEsSh hk (wpAny_mono (hs.run φ K lc P g p W h hm R) (fun Vs s q=>by
  obtain ⟨g',rfl,R',S,_,vs,hvs,q⟩:=q
  obtain ⟨h1,h2⟩:=hc vs Vs g' R' (h.step S) S hvs q
  exact ⟨h1,wpAny_mono ((Sm.fl h2 fun f h=> .inr (.inl h):Sm c (φ.x []) _ g' (VN c Q) K.E) R') (fun _ _ q=>q.since S R R') fun _ _ q=>q.xsince (φ:=φ.x []) S R R'⟩) fun _ _ q=>q)
theorem no_keeper {Mo:Model}{f:Value}:∀h:Heap,(fun _=>False) h→∃k,(k=Keeper.frame∨k=Keeper.machine∨k=Keeper.boundFrame)∧Looks Mo h (keeperOf f) k:=fun _ h=>h.elim
theorem call_user {φ:Fr}{K:Kx}{lc:Loc}{g:Sg}{Q:Po MV}{f:Addr}{first:List Value}{vs₀:List MV}{args:List Expr}{ms:List (Cd MV)}(hs:EsOk c nm args (evs ms))(W:KOk c φ K)(h:Here c φ nm lc g)(h0:∀vs Vs g',Step [] [] g g'→VRs c g'.m vs Vs→VRs c g'.m (vs₀ ++ vs) (first ++ Vs))
  (hm:evs ms K lc (fun vs=>K.cl K.hd K.E f (vs₀ ++ vs) Q) g.H):Sm c (φ.x []) (callWith p (.ref f) first (backTo p (starEach args φ.env)) []) g (VN c Q) K.E:=by
 by_cases hk:keepIn c.K (.ref f) =true
 ·exact call_args (Pr:=c.K.In) hs (keeps_K hk) W h hm fun vs Vs g' R' h' S hvs q=>⟨W.In R',W.call.run φ.toFm K.E f _ _ Q g' rfl h'.ok (h0 _ _ g' S hvs) (W.hd▸q)⟩
 ·exact call_args (Pr:=fun _=>False) hs no_keeper W h hm fun vs Vs g' R' h' S hvs q=>absurd (W.call.keep _ _ _ _ _ _ q) hk
theorem call_prim {φ:Fr}{K:Kx}{lc:Loc}{g:Sg}{Q:Po MV}{mu:Bool}{r:Pr}{first:List Value}{vs₀:List MV}{args:List Expr}{ms:List (Cd MV)}(hs:EsOk c nm args (evs ms))(W:KOk c φ K)(h:Here c φ nm lc g)(h0:∀vs Vs g',Step [] [] g g'→VRs c g'.m vs Vs→VRs c g'.m (vs₀ ++ vs) (first ++ Vs))
  (hm:evs ms K lc (fun vs=>prim mu K.hd r (vs₀ ++ vs) Q) g.H):Sm c (φ.x []) (callWith p r.val first (backTo p (starEach args φ.env)) []) g (VN c Q) K.E:=
 call_args (Pr:=fun _=>True) hs (keeps_machine fun a=>by unfold Pr.val;cases r.isT <;> nofun) W h hm fun vs Vs g' R' h' S hvs q=>⟨trivial,fun R=>sim_prim W.base.wd (h'.ok.toHnd R).1 (fun e=>h'.ok.off (W.hd▸e)) r (h0 _ _ g' S hvs) q R⟩
theorem EOk.call {x:Str}{q:Pos}{j:Nat}{f:Addr}{args:List Expr}{ms:List (Cd MV)}(hi:nm[j]?=some (x, .globalImplicit))(hd:(x == ("__debug__":Str)) =false)(hG:GlobAt c x (.ref f))(hs:EsOk c nm args (evs ms)):EOk c nm (.Call (.Name x q) args [] p) (kall f ms):=fun φ K lc Q g W h hm=>
 (sim_glob (p:=q) (N:=fun V g'=>V= .ref f∧g'=g) (E:=K.E) (X:=[]) W.base hi hd hG h ⟨rfl,rfl⟩).bind (f:=fun F=>callWith p F [] (backTo p (starEach args φ.env)) []) fun V g' R S e=>by
  obtain ⟨rfl,rfl⟩:=e
  exact call_user (vs₀:=[]) hs W h (fun _ _ _ _ r=>r) hm
theorem EOk.blt {x:Str}{q:Pos}{j:Nat}{r:Pr}{mu:Bool}{args:List Expr}{ms:List (Cd MV)}(hi:nm[j]?=some (x, .globalImplicit))(hd:(x == ("__debug__":Str)) =false)(hG:GlobAt c x r.val)(hs:EsOk c nm args (evs ms)):EOk c nm (.Call (.Name x q) args [] p) (blt mu r ms):=fun φ K lc Q g W h hm=>
 (sim_glob (p:=q) (N:=fun V g'=>V=r.val∧g'=g) (E:=K.E) (X:=[]) W.base hi hd hG h ⟨rfl,rfl⟩).bind (f:=fun F=>callWith p F [] (backTo p (starEach args φ.env)) []) fun V g' R S e=>by
  obtain ⟨rfl,rfl⟩:=e
  exact call_prim (vs₀:=[]) hs W h (fun _ _ _ _ r=>r) hm
theorem EOk.isC {x y:Str}{q q':Pos}{j k:Nat}{T:Ty}(hi:nm[j]?=some (x, .globalImplicit))(hd:(x == ("__debug__":Str)) =false)(hG:GlobAt c x (.builtin "isinstance"))(hp:Pl e)(he:EOk c nm e m)
  (hi':nm[k]?=some (y, .globalImplicit)) (hd':(y == ("__debug__":Str)) =false) (hG':GlobAt c y T.at) (hT:TyOk c T):EOk c nm (.Call (.Name x q) [e, .Name y q'] [] p) (isC T m):=fun φ K lc Q g W h hm=>
 (sim_glob (p:=q) (N:=fun V g'=>V= .builtin "isinstance"∧g'=g) (E:=K.E) (X:=[]) W.base hi hd hG h ⟨rfl,rfl⟩).bind (f:=fun F=>callWith p F [] (backTo p (starEach [e, .Name y q'] φ.env)) []) fun V g' R S e'=>by
  obtain ⟨rfl,rfl⟩:=e'
  refine fun R=>callWith_of (by rw [hp.star];rfl) (keeps_machine (Mo:=model c.prog c.w) (f:= .builtin "isinstance") (fun a=>nofun)) ?_
  rw [hp.star]
  refine evalArgs_plain (spliced_cons (wpAny_mono (he φ K lc _ g' W h hm R) (fun V s n=>?_) fun _ _ q=>q))
  obtain ⟨g1,rfl,R1,S1,v,hv,q⟩:=n
  refine spliced_cons (wpAny_mono (sim_glob (p:=q') (N:=fun V g'=>V=T.at∧g'=g1) (E:=K.E) (X:=[]) W.base hi' hd' hG' (h.step S1) ⟨rfl,rfl⟩ R1) (fun V s n=>spliced_nil ⟨trivial,?_⟩) fun _ _ q=>q.xsince (φ:=φ.x []) S1 R R1)
  obtain ⟨_,rfl,_,_,rfl,rfl⟩:=n
  exact wpAny_mono (sim_isInst (φ:=φ.x []) (E:=K.E) (W.In R1) W.base.own hT hv q R1) (fun _ _ q=>q.since S1 R R1) fun _ _ q=>q.xsince (φ:=φ.x []) S1 R R1
end
end Mine
end
section
namespace Mine
open PySem PySem.W PySem.Calls PyProof.Rows PySem.SeqAt
noncomputable def Knd.ty:Knd→String
 | .str=>"str"
 | .bytes=>"bytes"
 | .list=>"list"
 | .dict=>"dict"
structure MthOk (k:Knd)(x:Str)(r:Pr):Prop where
 attrs:PlainAttrs k.ty
 slot:Slot k.ty x r.bid
 typ:typeOf (.builtin r.bid) =pure (.type "method_descriptor")
 no:r.isT=false
theorem mth_join:MthOk .str "join" .join:=⟨PySem.F.plainAttrs_str,PySem.F.slot_str_join,PySem.F.type_str_join,rfl⟩
theorem mth_starts:MthOk .bytes "startswith" .starts:=⟨PySem.W.FB.plainAttrs_bytes,PySem.W.FB.slot_bytes_startswith,PySem.W.FB.type_bytes_startswith,rfl⟩
theorem mth_append:MthOk .list "append" .append:=⟨PySem.F.plainAttrs_list,PySem.F.slot_list_append,PySem.F.type_list_append,rfl⟩
theorem mth_pop:MthOk .list "pop" .pop:=⟨PySem.F.plainAttrs_list,PySem.F.slot_list_pop,PySem.F.type_list_pop,rfl⟩
theorem mth_pop0:MthOk .list "pop" .pop0:=⟨PySem.F.plainAttrs_list,PySem.F.slot_list_pop,PySem.F.type_list_pop,rfl⟩
theorem mth_extend:MthOk .list "extend" .extend:=⟨PySem.F.plainAttrs_list,PySem.F.slot_list_extend,PySem.F.type_list_extend,rfl⟩
theorem mth_index:MthOk .list "index" .index:=⟨PySem.F.plainAttrs_list,PySem.F.slot_list_index,PySem.F.type_list_index,rfl⟩
theorem mth_get:MthOk .dict "get" .get:=⟨PySem.F.plainAttrs_dict,PySem.F.slot_dict_get,PySem.F.type_dict_get,rfl⟩
theorem mth_get2:MthOk .dict "get" .get2:=⟨PySem.F.plainAttrs_dict,PySem.F.slot_dict_get,PySem.F.type_dict_get,rfl⟩
theorem mth_dpop:MthOk .dict "pop" .dpop:=⟨PySem.F.plainAttrs_dict,PySem.F.slot_dict_pop,PySem.F.type_dict_pop,rfl⟩
theorem mth_update:MthOk .dict "update" .update:=⟨PySem.F.plainAttrs_dict,PySem.F.slot_dict_update,PySem.F.type_dict_update,rfl⟩
structure MtdOk (c:Wo)(k:Addr)(x:Str)(f:Addr):Prop where
 get:plainGet c.K k x=true
 find:findIn c.K (.ref k) x=some (some (.ref f))
 fn:isFn c.K (.ref f) =true
 no:x∉namesOf k
section
variable {c:Wo}{nm:Nms}{e o:Expr}{m mo:Cd MV}{p ap:Pos}{args:List Expr}{ms:List (Cd MV)}
theorem SR.knd {g:Sg}(R:SR c g){v:MV}{V:Value}(hv:VR c g.m v V){k:Knd}{P:Prop}(h:hasKnd k v g.H P):(g.s.TypeIs V k.ty∧∀a,V= .ref a→∃ob,g.at a=some ob∧ob.dict=none)∧P:=by
 cases k with
 | str=>obtain ⟨x,t,rfl,q⟩:=hv.asStr h;exact ⟨⟨rfl,nofun⟩,q⟩
 | bytes=>obtain ⟨x,t,rfl,q⟩:=hv.asBytes h;exact ⟨⟨PySem.W.typeIs_bytes _ _ _,nofun⟩,q⟩
 | list=>obtain ⟨a,xs,vs,n,rfl,h1,_,_,q⟩:=R.derL hv h;exact ⟨⟨list_type h1,fun b e=>by cases e;exact ⟨_,h1,rfl⟩⟩,q⟩
 | dict=>
  obtain ⟨a,es,kvs,rfl,h1,_,_,q⟩:=R.derD hv h
  refine ⟨⟨h1.typeIs,fun b e=>?_⟩,q⟩
  cases e
  obtain ⟨ob,k1,es,ep,⟨_,k3,_⟩,_⟩:=Heap.dictOf_iff.mp h1
  exact ⟨ob,k1,k3⟩
theorem meth_tree {Mo:Model}{A:Around}{s:Shared}{E:Value→Shared→Prop}{env:Env}{name:Str}{ov:Value}{Q:Value→Shared→Prop}(hs:EsSh args)(hl:args.length < 29)(hline:(ap.endLine == p.line) =true)
  (h:∀pl,wpAny Mo A (getMethod ov name pl) (fun q s'=>wpAny Mo A (callWith p q.1 q.2 (backTo p (starEach args env)) []) Q E s') E s) :
  wpAny Mo A (methodCall o name ap p env ov (args.length+ ([]:List Keyword).length) (backTo p (starEach args env)) (backToKw p (keywordEach [] env))) Q E s:=by
 have hform:methodCallForm (args.length+ ([]:List Keyword).length) (backTo p (starEach args env)) (backToKw p (keywordEach [] env)) =true:=by
  show ((backTo p (starEach args env)).all (!·.1) && ([]:List (Option Str × Sem Value)).all (·.1.isSome) && decide (args.length+0+0 < 30)) =true
  have h1:(backTo p (starEach args env)).all (!·.1) =true:=List.all_eq_true.mpr fun q hq=>by simpa using List.any_eq_false.mp (hs.plain p env) q hq
  rw [h1]
  simp;omega
 have hpos:methodCallPos true o env ap p=pure p:=by unfold methodCallPos;simp [hline]
 unfold methodCall
 rw [hform]
 refine wpAny_bind (wpAny_holding (wpAny_mono (h _) (fun q s' q'=>?_) fun _ _ q=>q))
 obtain ⟨f,first⟩:=q
 exact wpAny_bind (wpAny_of_eq hpos q')
theorem eval_meth {x:Str}{env:Env}(hb:Bare o):eval (.Call (.Attribute o x ap) args [] p) env= (eval o env >>= fun ov=>standAt ap.atName >>= fun _=>methodCall o x ap p env ov (args.length+ ([]:List Keyword).length) (backTo p (starEach args env)) (backToKw p (keywordEach [] env))):=by
 show (attributeBase o x env (eval o env) >>= _) =_
 rw [hb]
theorem EOk.mth {k:Knd}{x:Str}{r:Pr}{mu:Bool}(hb:Bare o)(M:MthOk k x r)(ho:EOk c nm o mo)(hs:EsOk c nm args (evs ms))(hl:args.length < 29)(hline:(ap.endLine == p.line) =true):EOk c nm (.Call (.Attribute o x ap) args [] p) (mth mu k r mo ms):=fun φ K lc Q g W h hm=>by
 rw [eval_meth hb]
 refine (ho φ K lc _ g W h hm).bind fun V g' R S n=> .standAt fun R=>meth_tree hs.toEsSh hl hline fun pl=>?_
 obtain ⟨v,hv,q⟩:=n
 obtain ⟨⟨h1,h2⟩,q⟩:=R.knd hv q
 refine getMethod_builtin h1 M.attrs M.slot M.typ h2 ?_
 have hval:r.val= .builtin r.bid:=by unfold Pr.val;rw [M.no];rfl
 rw [← hval]
 exact call_prim (vs₀:=[v]) hs W (h.step S) (fun vs Vs g'' S' r=>⟨V,Vs,rfl,hv.st S',r⟩) q R
theorem EOk.mtd {k f:Addr}{x:Str}(hb:Bare o)(M:MtdOk c k x f)(ho:EOk c nm o mo)(hs:EsOk c nm args (evs ms))(hl:args.length < 29)(hline:(ap.endLine == p.line) =true):EOk c nm (.Call (.Attribute o x ap) args [] p) (mtd k f mo ms):=fun φ K lc Q g W h hm=>by
 rw [eval_meth hb]
 refine (ho φ K lc _ g W h hm).bind fun V g' R S n=> .standAt fun R=>meth_tree hs.toEsSh hl hline fun pl=>?_
 obtain ⟨v,hv,q⟩:=n
 cases v with
 | inst d fs=>
  have hq:bif Nat.beq d k then evs ms K lc (fun vs=>K.cl K.hd K.E f (.inst d fs::vs) Q) g'.H else False:=q
  cases hk:Nat.beq d k with
  | false=>rw [hk] at hq;exact hq.elim
  | true=>
   rw [hk] at hq
   obtain rfl:=Nat.eq_of_beq_eq_true hk
   have hv0:=hv
   obtain ⟨a,d',od,kvs,rfl,_,z,z',i,r⟩:=hv
   have hsh:shadowIn (some od) x=some false:=by
    show (lookIn x od).map _=_
    rw [look_dict i x,r.no M.no];rfl
   refine method_fn (W.In R) (instAt (R.z _ _ z) (R.z _ _ z')) (plainGet_of M.get).1 (plainGet_of M.get).2 M.find (beq_iff_eq.mp M.fn) hsh ?_
   exact call_user (vs₀:=[.inst d fs]) hs W (h.step S) (fun vs Vs g'' S' r=>⟨_,Vs,rfl,hv0.st S',r⟩) hq R
 | _=>exact q.elim
end
end Mine
end
section
namespace Mine
open PySem PySem.W PySem.Calls PyProof.Rows PySem.SeqAt
theorem eq_le {a b c:Nat}(h:a=b)(h':b≤c):a≤c:=h▸h'
structure Itr (c:Wo)(A:Around)(target:Expr)(I:Addr)(IS:List Addr)(xs:List MV)(St:Nat→Sg→Prop):Prop where
 step:∀(i:Nat) (x:MV) (g:Sg) (E:Value→Shared→Prop) (Q:Value→Shared→Prop),xs[i]?=some x→SR c g→St i g→(∀v g',VR c g'.m x v→Step [] IS g g'→SR c g'→g'.H=g.H→St (i+1) g'→Q v g'.s)→
  wpAny (model c.prog c.w) A (pyNext (.ref I)) (fun r s₁=>∃v,r=some v∧wpAny (model c.prog c.w) A (letOwnedTupleGo target (.ref I) v) (fun _ s'=>Q v s') E s₁) E g.s
 done:∀(g:Sg) (E:Value→Shared→Prop) (Q:Shared→Prop),SR c g→St xs.length g→(∀h' tk,(∀b o,b∉IS→g.at b=some o→h'.get? b=some o)→Q {g.s with heap:=h',toks:=tk})→wpAny (model c.prog c.w) A (pyNext (.ref I)) (fun r s'=>r=none∧Q s') E g.s
 frame:∀(i:Nat) (X:List Addr) (g g':Sg),St i g→SR c g→SR c g'→Step [] X g g'→(∀a∈X,Priv g a∧a∉IS)→St i g'
 priv:∀(i:Nat) (g:Sg),St i g→∀a∈IS,Priv g a∧∃o,g.at a=some o
 self:∀(i:Nat) (g:Sg) (E:Value→Shared→Prop) (Q:Value→Shared→Prop),St i g→Q (.ref I) g.s→wpAny (model c.prog c.w) A (pyIter (.ref I)) Q E g.s
inductive ItR (c:Wo)(A:Around)(target:Expr)(g₀:Sg)(xs:List MV)(it:Value)(g:Sg):Prop
 | mk (I:Addr)(IS:List Addr)(St:Nat→Sg→Prop):it= .ref I→Itr c A target I IS xs St→(∀a∈IS,g₀.at a=none)→St 0 g→ItR c A target g₀ xs it g
inductive ItN (c:Wo)(A:Around)(target:Expr)(g₀:Sg)(Q:Po (List MV))(it:Value)(g:Sg):Prop
 | mk (xs:List MV):xs.length≤sizeMost→Q xs g.H→ItR c A target g₀ xs it g→ItN c A target g₀ Q it g
section
variable {c:Wo}{φ:Fx}{A:Around}{target:Expr}{g g':Sg}{X:List Addr}{E:Hp→Prop}{Q:Po (List MV)}
theorem Stable.keep (R:SR c g)(S:Step [] X g g')(hx:∀a∈X,Priv g a){b:Addr}(h:Stable g b):Stable g' b∧∀o,g.at b=some o→g'.at b=some o:=by
 have kn:Kn g b:=h.elim .inl fun ⟨j,k,h1,_⟩=> .inr (List.mem_of_getElem? h1)
 have nm:¬ Mutb g b:=fun ⟨i,o,e1,e2⟩=>by
  rcases h with ⟨o',h⟩ | ⟨j,k,h1,h2,h3⟩
  ·exact nomatch ((R.cells i _ b e2 e1).z (by nofun)).symm.trans h
  ·obtain rfl:=nodup_idx R.nodup e1 h1
   cases e2.symm.trans h2;exact h3 rfl
 exact ⟨h.imp (fun ⟨o,h⟩=>⟨o,S.up.z _ _ h⟩) fun ⟨j,k,h1,h2,h3⟩=>⟨j,k,pre_get S.up.r h1,S.md j k h2 h3,h3⟩,fun o e=>(S.keep b o e nm fun q=>(hx b q).not kn).eq⟩
noncomputable def ownTypes:List String:=["enumerate","zip","dict_itemiterator","dict_reverseitemiterator","odict_iterator","itertools.zip_longest","itertools.pairwise"]
theorem let_go_other {s:Shared}{I:Addr}{v:Value}{o:Obj}{T:String}{Mo:Model}{E:Value→Shared→Prop}{Q:Unit→Shared→Prop}(ho:s.heap.get? I=some o)(hc:o.cls= .type T)(hT:ownTypes.contains T=false)(h:Q () s) :
  wpAny Mo A (letOwnedTupleGo target (.ref I) v) Q E s:=by
 have key:∀a,wpAny Mo A (letOwnedTupleGo (.List [] default) (.ref I) (.ref a)) Q E s:=by
  intro a
  obtain ⟨_,_,d,_⟩:=o
  cases (hc:_=_)
  refine wpAny_bind (wpAny_load ho ?_)
  cases d with
  | fields vs=>
   show wpAny _ _ (if (ownTypes.contains T && _) =true then _ else pure ()) _ _ _
   rw [hT]
   exact wpAny_pure h
  | _=>exact wpAny_pure h
 cases target with
 | Tuple | List=>cases v with
  | ref a=>exact key a
  | _=>exact wpAny_pure h
 | _=>exact wpAny_pure h
structure WSt (c:Wo)(I:Addr)(fp:List Addr)(St:Nat→Heap→Prop)(Rel:Mp→Prop)(i:Nat)(g:Sg):Prop where
 st:St i g.s.heap
 rel:Rel g.m
 p:Priv g I
 fp:∀b∈fp,b=I∨Stable g b
theorem Itr.of_walks {I:Addr}{fp:List Addr}{xs:List MV}{Pv:Nat→Value→Prop}{St:Nat→Heap→Prop}{T:String}{Rel:Mp→Prop}(Wk:Walks c.prog c.w A I fp [I] xs.length Pv St)
  (hT:ownTypes.contains T=false) (cls:∀i h,St i h→∃o,h.get? I=some o∧o.cls= .type T) (rmono:∀m m',m.le m'→Rel m→Rel m') (hP:∀i x v m,xs[i]?=some x→Pv i v→Rel m→VR c m x v):Itr c A target I [I] xs (WSt c I fp St Rel) where
 step:=fun i x g E Q hx R st hQ=>by
  refine Wk.item i g.s _ E (List.getElem?_eq_some_iff.mp hx).1 st.st fun v h' tk hv st' hk=>?_
  obtain ⟨o',ho',hc'⟩:=cls _ _ st'
  refine ⟨v,rfl,let_go_other (s:={g.s with heap:=h',toks:=tk}) ho' hc' hT ?_⟩
  have k:∀a o,g.at a=some o→a∉ [I]→h'.get? a=some o:=fun a o e ha=>hk a o ha e
  exact hQ v (g.on h' tk) (hP i x v g.m hx hv st.rel) (.of_but k fun a ha o _=>List.mem_singleton.mp ha▸⟨o',ho'⟩) (R.of_but k fun a ha=>List.mem_singleton.mp ha▸st.p) rfl ⟨st',st.rel,st.p.rec fun a b=>⟨a,b⟩,st.fp⟩
 done:=fun g E Q R st hQ=>Wk.done g.s _ E st.st fun h' tk hk=>⟨rfl,hQ h' tk hk⟩
 frame:=fun i X g g' st R R' S hx=>by
  obtain ⟨o,ho,_⟩:=cls _ _ st.st
  have hI:I∉X:=fun q=>(hx I q).2 (.head _)
  refine ⟨Wk.frame i _ _ st.st fun b hb o e=>?_,rmono _ _ S.up st.rel,S.priv st.p ho,fun b hb=>?_⟩
  ·rcases st.fp b hb with rfl | hs
   ·exact (S.kp st.p hI e).eq
   ·exact (hs.keep R S fun a ha=>(hx a ha).1).2 o e
  ·exact (st.fp b hb).imp id fun hs=>(hs.keep R S fun a ha=>(hx a ha).1).1
 priv:=fun i g st a ha=>List.mem_singleton.mp ha▸⟨st.p,(cls _ _ st.st).imp fun _ h=>h.1⟩
 self:=fun i g E Q st hQ=>Wk.self i g.s Q E st.st hQ
theorem itr_push {I:Addr}{fp:List Addr}{xs:List MV}{Pv:Nat→Value→Prop}{St:Nat→Heap→Prop}{T:String}{Rel:Mp→Prop}{oI:Obj}{l:List Env}{t:Nat}(R:SR c g)(hI:I=g.s.heap.objs.size)(Wk:Walks c.prog c.w A I fp [I] xs.length Pv St)
  (hT:ownTypes.contains T=false) (cls:∀i h,St i h→∃o,h.get? I=some o∧o.cls= .type T) (rmono:∀m m',m.le m'→Rel m→Rel m') (hP:∀i x v m,xs[i]?=some x→Pv i v→Rel m→VR c m x v) (hrel:Rel g.m) (hfp:∀b∈fp,b=I∨Stable g b) (st:St 0 (g.s.heap.push oI)) (ql:xs.length≤sizeMost) (q:Q xs g.H) :
  Nd c l X g (ItN c A target g Q (.ref I)) {g.s with heap:=g.s.heap.push oI,toks:=t}:=by
 subst hI
 have hn:=push_none g.s.heap
 exact nd_on R push_keep ⟨xs,ql,q,_,[_],_,rfl,Itr.of_walks Wk hT cls rmono hP,fun a ha=>List.mem_singleton.mp ha▸hn,st,hrel,(R.absent hn).rec fun a b=>⟨a,b⟩,hfp⟩
theorem iter_list {a:Addr}{xs:List MV}{vs:List Value}{k:Nat}(hh:Hnd φ.A g.s.heap)(hz:∀e∈hndAddr φ.A,Stable g e)(ha:g.at a=some (oLst vs k))(hs:Stable g a)(hr:VRs c g.m xs vs)(ql:xs.length≤sizeMost)(q:Q xs g.H):Sm c φ (pyIter (.ref a)) g (ItN c φ.A target g Q) E:=fun R=>by
 have hlt:=Heap.lt_size ha
 refine wpAny_pyIter_list (isList ha) ?_
 have hl:xs.length=vs.toArray.size:=hr.length
 have W:=walks_list (prog:=c.prog) (w:=c.w) (A:=φ.A) g.s.heap.objs.size a (Nat.ne_of_lt hlt) (fun he=>absurd (hnd_lt hh he) (Nat.lt_irrefl _)) vs.toArray
 rw [← hl] at W
 refine itr_push (T:="list_iterator") (Rel:=fun m=>VRs c m xs vs) R rfl W (by decide) (fun i h st=>?_) (fun m m' h1 h=>h.up h1) (fun i x v m hx hv rel=>?_) hr (fun b hb=>?_) ⟨⟨_,Heap.get?_push_size _ rfl,rfl,rfl⟩,(isList ha).push _,hh.mono fun e o vs _ e' _=>Heap.get?_push_of_some _ e'⟩ ql q
 ·obtain ⟨⟨o,ho,hc,_⟩,_⟩:=st;exact ⟨o,ho,hc⟩
 ·have rel:VRs c m xs vs:=rel
  obtain ⟨y,ey,ry⟩:=rel.get hx
  cases hv.symm.trans (getElem?_arr ey);exact ry
 ·exact (List.mem_cons.mp hb).imp id fun hb=>(List.mem_cons.mp hb).elim (fun e=>by rw [e];exact hs) (hz b)
end
end Mine
end
section
namespace Mine
open PySem PySem.W PySem.Calls PyProof.Rows PySem.SeqAt
section
variable {c:Wo}{φ:Fx}{A:Around}{target:Expr}{g g' g₁:Sg}{X:List Addr}{l:List Env}{E:Hp→Prop}{Q:Po (List MV)}
theorem ItN.back {it:Value}(h:ItN c A target g₁ Q it g)(k:∀a,g₁.at a=none→g'.at a=none):ItN c A target g' Q it g:=
 h.rec fun xs l q r=>⟨xs,l,q,r.rec fun I IS St e i n s=>⟨I,IS,St,e,i,fun a ha=>k a (n a ha),s⟩⟩
theorem key_vr {c:Wo}{m:Mp}{v:Value}{k:Key}(h:keyIs k v=true):VR c m (keyV k) v:=by
 cases k with
 | inl i=>exact keyIs_int h
 | inr i=>exact keyIs_str h
theorem only {I:Addr}:∀b∈ [I],b=I∨Stable g b:=fun b hb=> .inl (List.mem_singleton.mp hb)
theorem also {I a:Addr}(h:Stable g a):∀b∈ [I,a],b=I∨Stable g b:=fun b hb=>(List.mem_cons.mp hb).imp id fun q=>by rw [List.mem_singleton.mp q];exact h
theorem map_at {α:Type}{f:α→MV}{l:List α}{i:Nat}{x:MV}(h:(l.map f)[i]?=some x):∃a,l[i]?=some a∧x=f a:=by
 rw [List.getElem?_map] at h
 exact (Option.map_eq_some_iff.mp h).imp fun a q=>⟨q.1,q.2.symm⟩
theorem iter_tuple {a:Addr}{xs:List MV}{vs:List Value}{k:Nat}(hh:φ.A.handled=none)(ha:g.at a=some (oTup vs k))(hs:Stable g a)(hr:VRs c g.m xs vs)(ql:(xs).length≤sizeMost)(q:Q xs g.H):Sm c φ (pyIter (.ref a)) g (ItN c φ.A target g Q) E:=fun R=>by
 have hlt:=Heap.lt_size ha
 refine wpAny_pyIter_tuple (isTuple ha) ?_
 have hl:xs.length=vs.toArray.size:=hr.length
 have W:=Walks.tuple (prog:=c.prog) (w:=c.w) (A:=φ.A) hh g.s.heap.objs.size a (Nat.ne_of_lt hlt) vs.toArray
 rw [← hl] at W
 refine itr_push (T:="tuple_iterator") (Rel:=fun m=>VRs c m xs vs) R rfl W (by decide) (fun i h st=>?_) (fun m m' h1 h=>h.up h1) (fun i x v m hx hv rel=>?_) hr (also hs) ⟨⟨_,Heap.get?_push_size _ rfl,rfl,rfl⟩,⟨_,Heap.get?_push_of_some _ ha,rfl,k,rfl⟩⟩ ql q
 ·obtain ⟨⟨o,ho,hc,_⟩,_⟩:=st;exact ⟨o,ho,hc⟩
 ·have rel:VRs c m xs vs:=rel
  obtain ⟨y,ey,ry⟩:=rel.get hx
  cases hv.symm.trans (getElem?_arr ey);exact ry
theorem iter_dict {a:Addr}{es:Dict}{kvs:KVs}(hh:φ.A.handled=none)(ha:g.s.heap.DictOf c.kd a kvs)(hsys:(a == sysModules) =false)(hs:Stable g a)(hr:PR c g.m es kvs)(ql:((keysV es)).length≤sizeMost)(q:Q (keysV es) g.H):Sm c φ (pyIter (.ref a)) g (ItN c φ.A target g Q) E:=fun R=>by
 obtain ⟨ep,hat⟩:=ha.dictAt
 have hlt:=hat.lt_size
 refine wpAny_pyIter_dict hsys hat ?_
 have hl:(keysV es).length=kvs.length:=(List.length_map _).trans hr.length
 have W:=Walks.dictKeys (prog:=c.prog) (w:=c.w) (A:=φ.A) (knd:=c.kd) hh g.s.heap.objs.size a (Nat.ne_of_lt hlt) kvs ep
 rw [← hl] at W
 have hkeys:=hr.keys
 refine itr_push (T:="dict_keyiterator") (Rel:=fun m=>True) R rfl W (by decide) (fun i h st=>?_) (fun m m' h1 h=>h) (fun i x v m hx hv rel=>?_) trivial (also hs) ⟨⟨_,Heap.get?_push_size _ rfl,rfl,by rw [hl];rfl⟩,hat.push _⟩ ql q
 ·obtain ⟨⟨o,ho,hc,_⟩,_⟩:=st;exact ⟨o,ho,hc⟩
 ·obtain ⟨k,y,e1,e2⟩:=hv
  obtain ⟨e,he,rfl⟩:=map_at hx
  have h1:(es.map (·.1))[i]?=some e.1:=by rw [List.getElem?_map,he];rfl
  rw [hkeys,List.getElem?_map,e1] at h1
  cases (Option.some.inj h1:k=e.1)
  exact key_vr e2
theorem iter_str {x:Str}{t:Tok}(hh:φ.A.handled=none)(hx:∀c∈x.cps.toList,c < 128)(ql:((x.cps.toList.map chrV)).length≤sizeMost)(q:Q (x.cps.toList.map chrV) g.H):Sm c φ (pyIter (.str x t)) g (ItN c φ.A target g Q) E:=fun R=>by
 have hx':x.cps.all (· < 128) =true:=by rw [← Array.all_toList];exact List.all_eq_true.mpr fun c h=>decide_eq_true (hx c h)
 refine wpAny_pyIter_ascii hx' ?_
 have hl:(x.cps.toList.map chrV).length=x.cps.size:=List.length_map _
 have W:=Walks.strAscii (prog:=c.prog) (w:=c.w) (A:=φ.A) hh g.s.heap.objs.size x t
 rw [← hl] at W
 refine itr_push (T:="str_ascii_iterator") (Rel:=fun m=>True) R rfl W (by decide) (fun i h st=>?_) (fun m m' h1 h=>h) (fun i y v m hy hv rel=>?_) trivial only ⟨_,Heap.get?_push_size _ rfl,rfl,rfl⟩ ql q
 ·obtain ⟨o,ho,hc,_⟩:=st;exact ⟨o,ho,hc⟩
 ·obtain ⟨d,u,e1,rfl⟩:=hv
  obtain ⟨e,he,rfl⟩:=map_at hy
  rw [Array.getElem?_toList,e1] at he
  cases he;exact ⟨u,rfl⟩
theorem iter_bytes {b:List UInt8}{t:Tok}(hh:φ.A.handled=none)(ql:((b.map octV)).length≤sizeMost)(q:Q (b.map octV) g.H):Sm c φ (pyIter (.bytes b.toArray t)) g (ItN c φ.A target g Q) E:=fun R=>by
 refine KBw.pyIter_bytes ?_
 have hl:(b.map octV).length=b.toArray.size:=List.length_map _
 have W:=KBw.walks (prog:=c.prog) (w:=c.w) (A:=φ.A) hh g.s.heap.objs.size b.toArray t
 rw [← hl] at W
 refine itr_push (T:="bytes_iterator") (Rel:=fun m=>True) R rfl W (by decide) (fun i h st=>?_) (fun m m' h1 h=>h) (fun i y v m hy hv rel=>?_) trivial only ⟨_,Heap.get?_push_size _ rfl,rfl,rfl⟩ ql q
 ·obtain ⟨o,ho,hc,_⟩:=st;exact ⟨o,ho,hc⟩
 ·obtain ⟨d,u,e1,rfl⟩:=hv
  obtain ⟨e,he,rfl⟩:=map_at hy
  cases (List.getElem?_toArray▸he:b.toArray[i]?=some e).symm.trans e1
  exact ⟨u,rfl⟩
theorem sim_iterM {φ:Fr}{K:Kx}{nm:Nms}{lc:Loc}{v:MV}{V:Value}(h:AOk φ.toFm g)(hk:K.hd=φ.hd)(hv:VR c g.m v V)(hm:iterM K.hd v fun xs=>Q xs g.H):Sm c (φ.x X) (pyIter V) g (ItN c φ.A target g Q) E:=fun R=>by
 have off:K.hd=false→φ.A.handled=none:=fun e=>h.off (hk▸e)
 cases v with
 | lst xs=>exact hv.rec fun a vs n e s z r=>e▸iter_list (φ:=φ.x X) (h.toHnd R).1 (h.toHnd R).2 (R.z _ _ z) (.inl ⟨_,z⟩) r hm.1 hm.2 R
 | tup xs=>exact hv.rec fun a vs n e s z r=>e▸iter_tuple (φ:=φ.x X) (off hm.1) (R.z _ _ z) (.inl ⟨_,z⟩) r hm.2.1 hm.2.2 R
 | dct es=>exact hv.rec fun a o kvs e s z i r=>e▸iter_dict (φ:=φ.x X) (off hm.1) (Heap.dictOf_iff.mpr ⟨_,R.z _ _ z,i⟩) s (.inl ⟨_,z⟩) r (eq_le (List.length_map _) hm.2.1) hm.2.2 R
 | str x=>obtain ⟨t,rfl⟩:=hv;exact iter_str (φ:=φ.x X) (off hm.1) hm.2.1 (eq_le (List.length_map _) hm.2.2.1) hm.2.2.2 R
 | bytes b=>obtain ⟨t,rfl⟩:=hv;exact iter_bytes (φ:=φ.x X) (off hm.1) (eq_le (List.length_map _) hm.2.1) hm.2.2 R
 | _=>exact hm.elim
theorem range_size {k:Int}(hk:k≤100000)(h: -1000000≤k):Builtin.Range.rangeSize 0 k 1= (k.toNat:Int)∧Builtin.Range.small 0 k 1=true:=by
 have e:Builtin.Range.rangeSize 0 k 1= (k.toNat:Int):=by
  unfold Builtin.Range.rangeSize
  rw [if_pos (by decide)]
  by_cases h:(0:Int) < k
  ·rw [if_pos h,Int.sub_zero,Int.ediv_one,Int.sub_add_cancel];exact (Int.toNat_of_nonneg (Int.le_of_lt h)).symm
  ·rw [if_neg h,Int.toNat_of_nonpos (Int.not_lt.mp h)];rfl
 refine ⟨e,?_⟩
 unfold Builtin.Range.small Builtin.Range.rangeFitsLong
 rw [e]
 simp
 omega
theorem iter_range {k:Int}{t:Tok}(hh:φ.A.handled=none)(hk:k≤sizeMost)(hk2: -1000000≤k)(q:Q ((List.range k.toNat).map natV) g.H) :
  Sm c φ (call (.type "range") [.int k t]) g (fun x g₁=>Sm c φ (pyIter x) g₁ (ItN c φ.A target g Q) E) E:=fun R=>by
 obtain ⟨r1,r2⟩:=range_size hk hk2
 refine call_range_1 ?_
 have up:∀a o,g.at a=some o→(g.s.heap.push {cls:= .type "range",data:= .fields #[.int 0 g.s.toks, .int k t, .int 1 (g.s.toks+1)]}).get? a=some o:=fun _ _ e=>Heap.get?_push_of_some _ e
 refine nd_on R up fun R0=>wpAny_pyIter_range (Heap.get?_push_size _ rfl) r2 ?_
 have hl:((List.range k.toNat).map natV).length=k.toNat:=(List.length_map _).trans List.length_range
 have W:=Walks.range (prog:=c.prog) (w:=c.w) (A:=φ.A) hh (g.s.heap.push {cls:= .type "range",data:= .fields #[.int 0 g.s.toks, .int k t, .int 1 (g.s.toks+1)]}).objs.size 0 1 k.toNat
 rw [← hl] at W
 rw [r1]
 refine (itr_push (T:="range_iterator") (Rel:=fun m=>True) R0 rfl W (by decide) (fun i h st=>⟨_,st,rfl⟩) (fun m m' h1 h=>h) (fun i y v m hy hv rel=>?_) trivial only ?_ (eq_le hl (Int.toNat_le.mpr hk)) q).mono fun g' _ _ n=>n.back fun a e=>none_of fun o q=>nomatch (up a o q).symm.trans e
 ·obtain ⟨u,rfl⟩:=hv
  obtain ⟨j,hj,rfl⟩:=map_at hy
  obtain ⟨_,hj⟩:=List.getElem?_eq_some_iff.mp hj
  rw [List.getElem_range] at hj
  exact ⟨u,by rw [hj,Int.mul_one,Int.zero_add]⟩
 ·show IsRangeIter _ _ _ _ _
  have e1:(0:Int) + ((0:Nat):Int) * 1=0:=rfl
  rw [e1,hl,show ((k.toNat:Int) - ((0:Nat):Int)) = (k.toNat:Int) from Int.sub_zero _]
  exact Heap.get?_push_size _ rfl
theorem VRs.rev_get {m:Mp}{xs:List MV}{vs:List Value}(h:VRs c m xs vs){i:Nat}{x:MV}{v:Value}(hx:xs.reverse[i]?=some x)(hv:vs.toArray[vs.toArray.size - 1 - i]?=some v):VR c m x v:=by
 obtain ⟨y,ey,ry⟩:=h.reverse.get hx
 have hi:=(List.getElem?_eq_some_iff.mp hx).1
 rw [List.length_reverse,h.length] at hi
 rw [List.getElem?_reverse hi] at ey
 cases ey.symm.trans ((List.getElem?_toArray (xs:=vs) (i:=vs.length - 1 - i)).symm.trans hv);exact ry
theorem iter_reversed {a:Addr}{xs:List MV}{vs:List Value}{k:Nat}(hh:φ.A.handled=none)(ha:g.at a=some (oLst vs k))(hs:Stable g a)(hr:VRs c g.m xs vs)(ql:(xs.reverse).length≤sizeMost)(q:Q xs.reverse g.H) :
  Sm c φ (call (.type "reversed") [.ref a]) g (fun x g₁=>Sm c φ (pyIter x) g₁ (ItN c φ.A target g Q) E) E:=fun R=>by
 have hlt:=Heap.lt_size ha
 refine call_reversed_list (isList ha) ?_
 have hit:(g.s.heap.push (revObj a ((vs.toArray.size:Int) - 1))).IsRevIter g.s.heap.objs.size a ((vs.toArray.size:Int) - 1):=⟨_,Heap.get?_push_size _ rfl,rfl,rfl⟩
 have hl:xs.reverse.length=vs.toArray.size:=List.length_reverse.trans hr.length
 have W:=Walks.listRev (prog:=c.prog) (w:=c.w) (A:=φ.A) hh g.s.heap.objs.size a (Nat.ne_of_lt hlt) vs.toArray
 rw [← hl] at W
 refine Nd.mono (N:=ItN c φ.A target g Q (.ref g.s.heap.objs.size)) ?_ fun g' _ _ n R'=>?_
 ·refine itr_push (T:="list_reverseiterator") (Rel:=fun m=>VRs c m xs vs) R rfl W (by decide) (fun i h st=>?_) (fun m m' h1 h=>h.up h1) (fun i x v m hx hv rel=>?_) hr (also hs) ?_ ql q
  ·obtain ⟨_,⟨o,ho,hc,_⟩,_⟩:=st;exact ⟨o,ho,hc⟩
  ·rw [hl] at hv;exact VRs.rev_get rel hx hv
  ·rw [hl]
   refine ⟨Nat.zero_le _,?_,(isList ha).push _⟩
   rw [show (vs.toArray.size:Int) - 1 - ((0:Nat):Int) = (vs.toArray.size:Int) - 1 from Int.sub_zero _];exact hit
 ·obtain ⟨ys,ql,q,I,IS,St,e,It,n,st⟩:=n
  cases e
  exact It.self 0 g' _ _ st (nd_same R' ⟨ys,ql,q,_,IS,St,rfl,It,n,st⟩)
end
end Mine
end
section
namespace Mine
open PySem PySem.W PySem.Calls PyProof.Rows PySem.SeqAt
structure KS (c:Wo)(φ:Fr)(K:Kx):Prop extends KOk c φ K where
 head:∃r,φ.l=φ.env::r
 L:φ.env.frame=some φ.L
noncomputable abbrev Fr.X (φ:Fr):List Addr:=privOf φ.env
noncomputable def SN (c:Wo)(φ:Fr)(nm:Nms)(K:Kx)(N:Loc→Hp→Prop)(f:Flow)(g:Sg):Prop:=match f with
 | .next=>∃lc,FR c φ.env nm lc g∧N lc g.H
 | .brk=>∃lc,FR c φ.env nm lc g∧K.brk lc g.H
 | .ret V=>VN c K.ret V g
 | .cont=>False
noncomputable def SOk (c:Wo)(nm:Nms)(s:Stmt)(m:Cs):Prop:=∀(φ:Fr)(K:Kx)(N:Loc→Hp→Prop)(lc:Loc)(g:Sg),KS c φ K→Here c φ nm lc g→m K N lc g.H→Sm c (φ.x φ.X) (exec s φ.env) g (SN c φ nm K N) K.E
noncomputable def BOk (c:Wo)(nm:Nms)(b:List Stmt)(m:Cs):Prop:=∀(φ:Fr)(K:Kx)(N:Loc→Hp→Prop)(lc:Loc)(g:Sg),KS c φ K→Here c φ nm lc g→m K N lc g.H→Sm c (φ.x φ.X) (execs b φ.env) g (SN c φ nm K N) K.E
noncomputable def AN (c:Wo)(φ:Fr)(nm:Nms)(H:Hp)(P:Loc→Prop)(g:Sg):Prop:=g.H=H∧∃lc,FR c φ.env nm lc g∧P lc
structure StoreIn (φ:Fr)(nm:Nms)(X:List Addr):Prop where
 l:φ.env.locals∈X
 c:(∀a∈φ.X,a∈X)∨∀(i:Nat) x,nm[i]?≠some (x, .cell)
theorem StoreIn.all {φ:Fr}{nm:Nms}:StoreIn φ nm φ.X:=⟨.head _, .inl fun _ h=>h⟩
noncomputable def TgOk (c:Wo)(nm:Nms)(e:Expr)(t:Tg):Prop:=∀(φ:Fr)(X:List Addr)(hd:Bool)(lc:Loc)(P:Loc→Prop)(v:MV)(V:Value)(g:Sg)(E:Hp→Prop),StoreIn φ nm X→φ.hd=hd→Here c φ nm lc g→VR c g.m v V→put hd t v lc P→Sm c (φ.x X) (assign e φ.env V) g (fun _=>AN c φ nm g.H P) E
noncomputable def IOk (c:Wo)(nm:Nms)(target e:Expr)(m:Cd (List MV)):Prop:=∀(φ:Fr)(K:Kx)(lc:Loc)(Q:Po (List MV))(g:Sg),KOk c φ K→Here c φ nm lc g→m K lc Q g.H→
 Sm c (φ.x []) (eval e φ.env) g (fun x g₁=>Sm c (φ.x []) (pyIter x) g₁ (ItN c φ.A target g Q) K.E) K.E
section
variable {c:Wo}{φ:Fr}{nm:Nms}{target e:Expr}{t:Tg}{body:List Stmt}{b:Cs}{K:Kx}{N:Loc→Hp→Prop}{E:Hp→Prop}{g g' g₀:Sg}{lc lc₀:Loc}{D:Flow→Sg→Prop}{p:Pos}
theorem Here.next (h:Here c φ nm lc₀ g)(S:Step [] φ.X g g')(F:FR c φ.env nm lc g'):Here c φ nm lc g':=⟨F,h.ok.step S fun a ha o ho vs=>by
 obtain ⟨o',h1,h2⟩:=(F.priv a ha).o
 cases ho.symm.trans h1;exact h2 vs⟩
theorem Here.new (h:Here c φ nm lc g){a:Addr}(n:g.at a=none):a∉φ.X:=fun q=>let ⟨o,e,_⟩:=(h.fr.priv a q).o;nomatch n.symm.trans e
theorem IOk.over {m:Cd MV}(he:EOk c nm e m):IOk c nm target e (iover m):=fun φ K lc Q g W h hm=>
 (he φ K lc _ g W h hm).mono fun V g₁ R S n=>n.rec fun v hv q=>fun R=>wpAny_mono (sim_iterM (nm:=nm) (lc:=lc) (target:=target) (X:=[]) (h.step S).ok W.hd hv q R) (fun it s n=>n.mono fun g₂ _ _ n=>n.back fun _=>S.absent) fun _ _ q=>q
theorem IOk.make {x:Str}{q:Pos}{j:Nat}{T:String}{args:List Expr}{ms:List (Cd MV)}{m:Cd (List MV)}{P:Kx→Po (List MV)→Po (List MV)}(hi:nm[j]?=some (x, .globalImplicit))(hd:(x == ("__debug__":Str)) =false)(hG:GlobAt c x (.type T))(hs:EsOk c nm args (evs ms))
  (hm:∀K lc Q h,m K lc Q h→evs ms K lc (P K Q) h)
  (mk:∀(φ:Fr) (K:Kx) (lc:Loc) (Q:Po (List MV)) (vs:List MV) (Vs:List Value) (g:Sg) (E:Hp→Prop),K.hd=φ.hd→Here c φ nm lc g→VRs c g.m vs Vs→P K Q vs g.H→Sm c φ.toFm.x (call (.type T) Vs) g (fun x g₁=>Sm c φ.toFm.x (pyIter x) g₁ (ItN c φ.A target g Q) E) E) :
  IOk c nm target (.Call (.Name x q) args [] p) m:=fun φ K lc Q g W h h0=>
 (sim_glob (p:=q) (N:=fun V g'=>V= .type T∧g'=g) (E:=K.E) (X:=[]) W.base hi hd hG h ⟨rfl,rfl⟩).bind (f:=fun F=>callWith p F [] (backTo p (starEach args φ.env)) []) fun V g' R S e R=>by
  obtain ⟨rfl,rfl⟩:=e
  refine callW (Pr:=fun _=>True) hs.toEsSh (keeps_machine fun a=>nofun) (wpAny_mono (hs.run φ K lc _ g' p W h (hm K lc Q g'.H h0) R) (fun Vs s q=>?_) fun _ _ q=>q)
  obtain ⟨g₁,rfl,R₁,S₁,_,vs,hvs,q⟩:=q
  refine ⟨trivial,wpAny_mono (Sm.fl (mk φ K lc Q vs Vs g₁ K.E W.hd (h.step S₁) hvs q) (fun f h=> .inr (.inl h)) R₁) (fun x s q=>?_) fun _ _ q=>q.xsince (φ:=φ.x []) S₁ R R₁⟩
  refine (q.since S₁ R R₁).mono fun g₂ R₂ S₂ n R=>?_
  exact wpAny_mono (Sm.fl n (fun f h=> .inr (.inl h)) R) (fun it s n=>n.mono fun g₃ _ _ n=>n.back fun _=>S₁.absent) fun _ _ q=>q
noncomputable def ranP (K:Kx)(Q:Po (List MV))(vs:List MV)(h:Hp):Prop:=match vs with
 | [v]=>K.hd=false∧rangeM v fun xs=>Q xs h
 | _=>False
noncomputable def revP (K:Kx)(Q:Po (List MV))(vs:List MV)(h:Hp):Prop:=match vs with
 | [v]=>K.hd=false∧asLst v fun xs=>xs.length≤sizeMost∧Q xs.reverse h
 | _=>False
noncomputable def zipP (K:Kx)(Q:Po (List MV))(vs:List MV)(h:Hp):Prop:=match vs with
 | [v,u]=>K.hd=false∧zipM v u fun xs=>Q xs h
 | _=>False
theorem IOk.range {x:Str}{q:Pos}{j:Nat}{m:Cd MV}(hi:nm[j]?=some (x, .globalImplicit))(hd:(x == ("__debug__":Str)) =false)(hG:GlobAt c x (.type "range"))(hp:Pl e)(he:EOk c nm e m):IOk c nm target (.Call (.Name x q) [e] [] p) (iran m):=
 IOk.make (P:=ranP) (ms:=[m]) hi hd hG (.cons hp he .nil) (fun K lc Q h q=>q) fun φ K lc Q vs Vs g E hk h hv q=>by
  cases vs with
  | nil=>exact q.elim
  | cons v vs=>
  cases vs with
  | cons _ _=>exact q.elim
  | nil=>
  obtain ⟨V,_,rfl,hv,rfl⟩:=hv
  obtain ⟨h0,q⟩:=q
  obtain ⟨i,t,rfl,q⟩:=VR.asInt hv q
  exact iter_range (φ:=φ.toFm.x) (target:=target) (h.ok.off (hk▸h0)) q.1 q.2.1 q.2.2
theorem IOk.reversed {x:Str}{q:Pos}{j:Nat}{m:Cd MV}(hi:nm[j]?=some (x, .globalImplicit))(hd:(x == ("__debug__":Str)) =false)(hG:GlobAt c x (.type "reversed"))(hp:Pl e)(he:EOk c nm e m):IOk c nm target (.Call (.Name x q) [e] [] p) (irev m):=
 IOk.make (P:=revP) (ms:=[m]) hi hd hG (.cons hp he .nil) (fun K lc Q h q=>q) fun φ K lc Q vs Vs g E hk h hv q R=>by
  cases vs with
  | nil=>exact q.elim
  | cons v vs=>
  cases vs with
  | cons _ _=>exact q.elim
  | nil=>
  obtain ⟨V,_,rfl,hv,rfl⟩:=hv
  obtain ⟨h0,q⟩:=q
  cases v with
  | lst xs=>
   obtain ⟨a,vs,k,e,s,z,r⟩:=(hv:VR c g.m (.lst xs) V)
   cases e
   exact iter_reversed (φ:=φ.toFm.x) (target:=target) (h.ok.off (hk▸h0)) (R.z _ _ z) (.inl ⟨_,z⟩) r (eq_le List.length_reverse q.1) q.2 R
  | _=>exact q.elim
end
end Mine
end
section
namespace Mine
open PySem PySem.W PySem.Calls PyProof.Rows PySem.SeqAt
structure Zp where
 z:Addr
 TI:Addr
 TO:Addr
 i1:Addr
 i2:Addr
 l1:Addr
 l2:Addr
noncomputable def Zp.own (z:Zp):List Addr:=[z.z,z.TI,z.TO,z.i1,z.i2]
noncomputable def Zp.ap (z:Zp):Prop:=ZipApart z.z z.TI z.TO z.i1 z.i2 z.l1 z.l2
structure ZipSt (c:Wo)(z:Zp)(xs ys:List MV)(i:Nat)(g:Sg):Prop where
 zip:IsZip g.s.heap z.z z.TI z.TO .none
 pTI:IsPair g.s.heap z.TI (.ref z.i1) (.ref z.i2)
 pTO:∃a b,IsPair g.s.heap z.TO a b
 it1:g.s.heap.IsListIter z.i1 z.l1 i
 it2:g.s.heap.IsListIter z.i2 z.l2 i
 src1:∃vs,g.s.heap.IsList z.l1 (List.toArray vs)∧VRs c g.m xs vs
 src2:∃us,g.s.heap.IsList z.l2 (List.toArray us)∧VRs c g.m ys us
 priv:∀a∈z.own,Priv g a∧∃o,g.at a=some o
 st1:Stable g z.l1
 st2:Stable g z.l2
section
variable {c:Wo}{φ:Fx}{A:Around}{g g' g₁:Sg}{X:List Addr}{l:List Env}{E:Hp→Prop}{Q:Po (List MV)}{xs ys:List MV}{z:Zp}{i:Nat}
theorem zip_pairs {p:MV}(h:((xs.zip ys).map pairV)[i]?=some p):∃x y,xs[i]?=some x∧ys[i]?=some y∧p= .tup [x,y]:=by
 obtain ⟨e,he,rfl⟩:=map_at h
 obtain ⟨h1,h2⟩:=List.getElem?_zip_eq_some.mp he
 exact ⟨e.1,e.2,h1,h2,rfl⟩
theorem own_cases {P:Addr→Prop}(h1:P z.z)(h2:P z.TI)(h3:P z.TO)(h4:P z.i1)(h5:P z.i2):∀a∈z.own,P a:=fun a ha=>
 (List.mem_cons.mp ha).elim (fun e=>by rw [e];exact h1) fun ha=>(List.mem_cons.mp ha).elim (fun e=>by rw [e];exact h2) fun ha=>(List.mem_cons.mp ha).elim (fun e=>by rw [e];exact h3) fun ha=>
  (List.mem_cons.mp ha).elim (fun e=>by rw [e];exact h4) fun ha=>(List.mem_cons.mp ha).elim (fun e=>by rw [e];exact h5) nofun
theorem not_own {a:Addr}(h:a∉z.own):a≠z.z∧a≠z.TO∧a≠z.i1∧a≠z.i2:=⟨fun e=>h (e▸ .head _),fun e=>h (e▸ .tail _ (.tail _ (.head _))),fun e=>h (e▸ .tail _ (.tail _ (.tail _ (.head _)))),fun e=>h (e▸ .tail _ (.tail _ (.tail _ (.tail _ (.head _)))))⟩
theorem ZipSt.frame (st:ZipSt c z xs ys i g)(R:SR c g)(S:Step [] X g g')(hx:∀a∈X,Priv g a∧a∉z.own):ZipSt c z xs ys i g':=by
 have hp:∀a∈z.own,∀o,g.at a=some o→g'.at a=some o:=fun a ha o e=>(S.kp (st.priv a ha).1 (fun q=>(hx a q).2 ha) e).eq
 obtain ⟨o1,o2,hTO⟩:=st.pTO
 have k1:=st.st1.keep R S fun a ha=>(hx a ha).1
 have k2:=st.st2.keep R S fun a ha=>(hx a ha).1
 exact ⟨hp _ (.head _) _ st.zip,hp _ (.tail _ (.head _)) _ st.pTI,⟨o1,o2,hp _ (.tail _ (.tail _ (.head _))) _ hTO⟩,st.it1.at (hp _ (.tail _ (.tail _ (.tail _ (.head _))))),st.it2.at (hp _ (.tail _ (.tail _ (.tail _ (.tail _ (.head _)))))),
  st.src1.imp fun vs h=>⟨h.1.at k1.2,h.2.up S.up⟩,st.src2.imp fun vs h=>⟨h.1.at k2.2,h.2.up S.up⟩,fun a ha=>(st.priv a ha).elim fun p o=>o.elim fun o e=>⟨S.priv p e,S.live a o e⟩,k1.1,k2.1⟩
theorem itr_zip {elts:List Expr}{kk:Nat}{pos:Pos}(W:Wd c)(hh:A.handled=none)(D:z.ap):Itr c A (.Tuple elts kk pos) z.z z.own ((xs.zip ys).map pairV) (ZipSt c z xs ys) where
 step:=fun i x g E Q hx R st hQ=>by
  obtain ⟨a,b,ha,hb,rfl⟩:=zip_pairs hx
  obtain ⟨vs,hl1,r1⟩:=st.src1
  obtain ⟨us,hl2,r2⟩:=st.src2
  obtain ⟨v,ev,rv⟩:=r1.get ha
  obtain ⟨u,eu,ru⟩:=r2.get hb
  obtain ⟨o1,o2,hTO⟩:=st.pTO
  refine wpAny_pyNext_zip_item D st.zip st.pTI hTO st.it1 st.it2 hl1 hl2 (getElem?_arr ev) (getElem?_arr eu) fun h' a1 a2 a3 a4 a5 a6 hk=>?_
  refine ⟨_,rfl,wpAny_letOwnedTupleGo_zip (s:={g.s with heap:=h'}) a1 fun h'' hz' hs'=>?_⟩
  have hn:=push_none g.s.heap
  have k:∀c o,g.at c=some o→c∉z.own→h''.get? c=some o:=fun c o e hc=>have q:=not_own hc;hs'.extBut _ _ q.1 (hk c o q.1 q.2.1 q.2.2.1 q.2.2.2 e)
  have gTI:=hs'.extBut _ _ D.TIz (hk _ _ D.TIz D.TITO D.TIi1 D.TIi2 st.pTI)
  have gTO:=hs'.extBut _ _ D.TOz a2
  have gi1:=a3.extBut hs'.extBut D.i1z
  have gi2:=a4.extBut hs'.extBut D.i2z
  have live:∀a∈z.own,∃o,h''.get? a=some o:=own_cases ⟨_,hz'⟩ ⟨_,gTI⟩ ⟨_,gTO⟩ (gi1.imp fun _ h=>h.1) (gi2.imp fun _ h=>h.1)
  have S:Step [] z.own g (g.on h'' g.s.toks):= .of_but k fun a ha _ _=>live a ha
  have R':SR c (g.on h'' g.s.toks):=R.of_but k fun a ha=>(st.priv a ha).1
  have hT:g.s.heap.objs.size≠z.z:=fun q=>Nat.lt_irrefl _ (q▸Heap.lt_size st.zip:g.s.heap.objs.size < g.s.heap.objs.size)
  have gT:=hs'.extBut _ _ hT a5
  have p:Priv (g.on h'' g.s.toks) g.s.heap.objs.size:=(R.absent hn).rec fun a b=>⟨a,b⟩
  have le:=fz_priv (o:=oTup [v,u] 0) p
  have hq:=fun w=>hQ (.ref g.s.heap.objs.size) ((g.on h'' g.s.toks).fz g.s.heap.objs.size (oTup [v,u] 0)) ⟨_,[v,u],0,rfl,w,zput_at,VRs.up (V:=[v,u]) ⟨v,[u],rfl,rv, .one ru⟩ le⟩ (S.frozen p hn) (R'.frozen gT p) rfl
  refine hq ?_ ⟨hz',gTI,⟨_,_,gTO⟩,gi1,gi2,⟨vs,?_,r1.up le⟩,⟨us,?_,r2.up le⟩,fun a ha=>⟨⟨?_,(st.priv a ha).1.r⟩,live a ha⟩,st.st1.imp (fun ⟨o,h⟩=>⟨o,le.z _ _ h⟩) id,st.st2.imp (fun ⟨o,h⟩=>⟨o,le.z _ _ h⟩) id⟩
  ·exact R.not_sys W hn
  ·exact (hl1.at fun o e=>hk _ o D.l1z D.l1TO D.l1i1 D.l1i2 e).extBut hs'.extBut D.l1z
  ·exact (hl2.at fun o e=>hk _ o D.l2z D.l2TO D.l2i1 D.l2i2 e).extBut hs'.extBut D.l2z
  ·obtain ⟨p1,o,p3⟩:=st.priv a ha
   exact (zput_ne fun q=>by rw [q] at p3;cases hn.symm.trans p3).trans p1.z
 done:=fun g E Q R st hQ=>by
  obtain ⟨vs,hl1,r1⟩:=st.src1
  obtain ⟨us,hl2,r2⟩:=st.src2
  obtain ⟨o1,o2,hTO⟩:=st.pTO
  have hend:vs.toArray[((xs.zip ys).map pairV).length]?=none∨us.toArray[((xs.zip ys).map pairV).length]?=none:=by
   rw [List.length_map,List.length_zip,r1.length,r2.length]
   exact (Nat.le_total vs.length us.length).imp (fun q=>by rw [Nat.min_eq_left q];exact Array.getElem?_eq_none (Nat.le_refl _)) fun q=>by rw [Nat.min_eq_right q];exact Array.getElem?_eq_none (Nat.le_refl _)
  exact wpAny_pyNext_zip_end hh D st.zip st.pTI hTO st.it1 st.it2 hl1 hl2 hend fun h' hk=>⟨rfl,hQ h' g.s.toks fun b o hb e=>have q:=not_own hb;hk b o q.1 q.2.1 q.2.2.1 q.2.2.2 e⟩
 frame:=fun i X g g' st R R' S hx=>st.frame R S hx
 priv:=fun i g st=>st.priv
 self:=fun i g E Q st hQ=>wpAny_pyIter_zip st.zip hQ
theorem iter_zip {elts:List Expr}{kk:Nat}{pos:Pos}{a b:Addr}{vs us:List Value}{k k':Nat}(W:Wd c)(hh:φ.A.handled=none)(ha:g.at a=some (oLst vs k))(hb:g.at b=some (oLst us k'))(hs:Stable g a)(hs':Stable g b)(hr:VRs c g.m xs vs)(hr':VRs c g.m ys us)(ql:xs.length≤sizeMost)(q:Q ((xs.zip ys).map pairV) g.H) :
  Sm c φ (call (.type "zip") [.ref a, .ref b]) g (fun x g₁=>Sm c φ (pyIter x) g₁ (ItN c φ.A (.Tuple elts kk pos) g Q) E) E:=fun R=>by
 have la:a < g.s.heap.objs.size:=Heap.lt_size ha
 have lb:b < g.s.heap.objs.size:=Heap.lt_size hb
 refine call_zip_2 (isList ha) (isList hb) fun h' z1 z2 z3 z4 z5 z6 hk=>?_
 have fresh:∀j,g.at (g.s.heap.objs.size+j) =none:=fun j=>Heap.get?_none_of_le (Nat.le_add_right _ _)
 generalize hN:g.s.heap.objs.size=N at *
 have lt:∀ {j k:Nat},j < k→N+j≠N+k:=fun h=>Nat.ne_of_lt (Nat.add_lt_add_left h _)
 have gt:∀ {j k:Nat},j < k→N+k≠N+j:=fun h=>Nat.ne_of_gt (Nat.add_lt_add_left h _)
 have ll:∀ {d j:Nat},d < N→d≠N+j:=fun h=>Nat.ne_of_lt (Nat.lt_of_lt_of_le h (Nat.le_add_right _ _))
 have D:Zp.ap ⟨N+4,N+2,N+3,N+0,N+1,a,b⟩:=
  ⟨lt (by decide),lt (by decide),lt (by decide),lt (by decide),lt (by decide),gt (by decide),gt (by decide),gt (by decide),gt (by decide),lt (by decide),ll la,ll la,ll la,ll la,ll lb,ll lb,ll lb,ll lb⟩
 have new:∀c∈Zp.own ⟨N+4,N+2,N+3,N+0,N+1,a,b⟩,g.at c=none:=own_cases (fresh 4) (fresh 2) (fresh 3) (fresh 0) (fresh 1)
 refine nd_on R hk fun R'=>wpAny_pyIter_zip z1 (nd_same R' ⟨_,eq_le (List.length_map _) (Nat.le_trans (eq_le List.length_zip (Nat.min_le_left _ _)) ql),q,N+4,_,_,rfl,itr_zip W hh D,new,z1,z2,⟨_,_,z3⟩,z4,z5,⟨vs,⟨_,hk _ _ ha,rfl,k,rfl⟩,hr⟩,⟨us,⟨_,hk _ _ hb,rfl,k',rfl⟩,hr'⟩,fun d hd=>⟨(R.absent (new d hd)).rec fun a b=>⟨a,b⟩,?_⟩,hs,hs'⟩)
 exact own_cases (z:=⟨N+4,N+2,N+3,N+0,N+1,a,b⟩) (P:=fun a=>∃o,(g.on h' g.s.toks).at a=some o) ⟨_,z1⟩ ⟨_,z2⟩ ⟨_,z3⟩ (z4.imp fun _ h=>h.1) (z5.imp fun _ h=>h.1) d hd
theorem IOk.zip {nm:Nms}{x:Str}{p p' q:Pos}{k j:Nat}{elts:List Expr}{e e':Expr}{m m':Cd MV}(hi:nm[j]?=some (x, .globalImplicit))(hd:(x == ("__debug__":Str)) =false)(hG:GlobAt c x (.type "zip"))(hp:Pl e)(he:EOk c nm e m)(hp':Pl e')(he':EOk c nm e' m') :
  IOk c nm (.Tuple elts k p') (.Call (.Name x q) [e,e'] [] p) (izip m m'):=fun φ K lc Q g W=>
 IOk.make (P:=zipP) (ms:=[m,m']) hi hd hG (.cons hp he (.cons hp' he' .nil)) (fun K lc Q h q=>q) (fun φ K lc Q vs Vs g E hk h hv q R=>by
  cases vs with
  | nil=>exact q.elim
  | cons v vs=>
  cases vs with
  | nil=>exact q.elim
  | cons u vs=>
  cases vs with
  | cons _ _=>exact q.elim
  | nil=>
  obtain ⟨V,_,rfl,hv,U,_,rfl,hu,rfl⟩:=hv
  obtain ⟨h0,q⟩:=q
  cases v with
  | lst xs=>
   cases u with
   | lst ys=>
    obtain ⟨a,vs,k,e,s,z,r⟩:=(hv:VR c g.m (.lst xs) V)
    obtain ⟨b,us,k',e',s',z',r'⟩:=(hu:VR c g.m (.lst ys) U)
    cases e;cases e'
    exact iter_zip (φ:=φ.toFm.x) W.base.wd (h.ok.off (hk▸h0)) (R.z _ _ z) (R.z _ _ z') (.inl ⟨_,z⟩) (.inl ⟨_,z'⟩) r r' q.1 q.2 R
   | _=>exact q.elim
  | _=>exact q.elim) φ K lc Q g W
end
end Mine
end
section
namespace Mine
open PySem PySem.W PySem.Calls PyProof.Rows PySem.SeqAt
theorem lput_cases {u v:MV}{lc:Loc}:∀ {i j:Nat},lat (lput lc i v) j=some u→(j=i∧u=v)∨(j≠i∧lat lc j=some u):=by
 induction lc with
 | nil=>intro i j h;cases h
 | cons a l ih=>
  intro i j h
  cases i with
  | zero=>cases j with
   | zero=>exact .inl ⟨rfl,(Option.some.inj h).symm⟩
   | succ j=>exact .inr ⟨nofun,h⟩
  | succ i=>cases j with
   | zero=>exact .inr ⟨nofun,h⟩
   | succ j=>exact (ih h).imp (fun q=>⟨congrArg _ q.1,q.2⟩) fun q=>⟨fun e=>q.1 (Nat.succ.inj e),q.2⟩
theorem lput_comm {x y:MV}{lc:Loc}:∀ {i j:Nat},i≠j→lput (lput lc j y) i x=lput (lput lc i x) j y:=by
 induction lc with
 | nil=>intro i j h;rfl
 | cons a l ih=>
  intro i j h
  cases i with
  | zero=>cases j with
   | zero=>exact absurd rfl h
   | succ j=>rfl
  | succ i=>cases j with
   | zero=>rfl
   | succ j=>exact congrArg (a:: ·) (ih fun e=>h (congrArg _ e))
theorem lputs_len {P:Loc→Prop}{is:List Nat}:∀ {lc:Loc}{vs:List MV},lputs lc is vs P→is.length=vs.length:=by
 induction is with
 | nil=>intro lc vs h;cases vs with
  | nil=>rfl
  | cons _ _=>exact h.elim
 | cons i is ih=>intro lc vs h;cases vs with
  | nil=>exact h.elim
  | cons v vs=>exact congrArg (· +1) (ih h)
structure Own (nm:Nms)(i:Nat)(x:Str):Prop where
 at_:nm[i]?=some (x, .local)∨nm[i]?=some (x, .cell)
theorem Own.loc {nm:Nms}{i:Nat}{x:Str}(h:nm[i]?=some (x, .local)):Own nm i x:=⟨.inl h⟩
theorem Own.cel {nm:Nms}{i:Nat}{x:Str}(h:nm[i]?=some (x, .cell)):Own nm i x:=⟨.inr h⟩
section
variable {c:Wo}{φ:Fr}{nm:Nms}{g g':Sg}{lc:Loc}{env:Env}{h':Heap}{i:Nat}{x:Str}{v:MV}{V:Value}{P:Loc→Prop}{E:Hp→Prop}{p:Pos}
theorem FR.idx (F:FR c env nm lc g){j:Nat}{k k':NameKind}(hi:nm[i]?=some (x,k))(hj:nm[j]?=some (x,k')):j=i:=
 nodup_idx F.nd (a:=x) (by rw [List.getElem?_map,hj];rfl) (by rw [List.getElem?_map,hi];rfl)
theorem lput_name {j:Nat}{u:MV}{k k':NameKind}{y:Str}(hi:nm[i]?=some (x,k))(hj:nm[j]?=some (y,k'))(n:y≠x)(h:lat (lput lc i v) j=some u):lat lc j=some u:=by
 rcases lput_cases h with ⟨rfl,rfl⟩ | ⟨_,h⟩
 ·cases hi.symm.trans hj;exact absurd rfl n
 ·exact h
theorem own_changed {X:List Addr}(R:SR c g)(F:FR c env nm lc g){a:Addr}{t:Nat}(hp:a∈privOf env)(ha:a∈X)(k:Heap.SameBut a g.s.heap h')(hl:∃o,h'.get? a=some o∧∀vs,o.data≠ .fields vs) :
  SR c (g.on h' t)∧Step [] X g (g.on h' t)∧∀b∈privOf env,OwnAt (g.on h' t) b:=by
 have pr:∀b∈privOf env,OwnAt (g.on h' t) b:=fun b hb=>⟨(F.priv b hb).p.rec fun a b=>⟨a,b⟩,(Classical.em (b=a)).elim (fun q=>by rw [q];exact hl) fun q=>(F.priv b hb).o.imp fun o h=>⟨k.extBut b o q h.1,h.2⟩⟩
 have kk:∀b o,g.at b=some o→b∉X→h'.get? b=some o:=fun b o e hb=>k.extBut b o (fun q=>hb (by rw [q];exact ha)) e
 refine ⟨R.of_but (X:=[a]) (fun b o e hb=>k.extBut b o (fun q=>hb (q▸ .head _)) e) fun b hb=>by rw [List.mem_singleton.mp hb];exact (F.priv a hp).p, .of_but kk fun b hb o e=>(Classical.em (b=a)).elim (fun q=>by rw [q];exact hl.imp fun _ h=>h.1) fun q=>⟨o,k.extBut b o q e⟩,pr⟩
theorem sim_store {X:List Addr}(hX:StoreIn φ nm X)(F:FR c φ.env nm lc g)(hi:Own nm i x)(hv:VR c g.m v V)(q:P (lput lc i v)):Sm c (φ.x X) (storeName φ.env x V) g (fun _=>AN c φ nm g.H P) E:=fun R=>by
 rcases hi.at_ with hi | hi
 ·obtain ⟨k',hk,hkq⟩:=F.names i x _ hi
  obtain rfl:k'= .local:=hkq.elim id fun q=>nomatch q.1
  obtain ⟨m,hn,hm⟩:=F.ns
  refine wpAny_storeName_local hk hn (fun h' hn' sb=>?_) (by rw [F.kind];rfl)
  obtain ⟨R',S,pr⟩:=own_changed (t:=g.s.toks+1) R F (.head _) hX.l sb (hn'.imp fun o q=>q.elim fun _ q=>q.elim fun _ q=>⟨q.1,fun vs e=>nomatch q.2.1.symm.trans e⟩)
  refine ⟨_,rfl,R',S,rfl,_,{F with ns:=⟨_,hn',fun j y k u hj hu hy=>?_⟩,cell:=fun y hy=>?_,priv:=pr},q⟩
  ·rcases lput_cases hu with ⟨rfl,rfl⟩ | ⟨hne,hu⟩
   ·cases hi.symm.trans hj;exact ⟨V,if_pos rfl,hv⟩
   ·obtain ⟨U,h1,h2⟩:=hm j y k u hj hu hy
    exact ⟨U,(if_neg fun q:y=x=>hne (F.idx hi (q▸hj))).trans h1,h2⟩
  ·obtain ⟨a,v0,h1,⟨o,h2,h3⟩,h4⟩:=F.cell y hy
   have ha:a≠φ.env.locals:=fun q=>F.apart.1 (q▸List.mem_map.mpr ⟨_,mem_of_lookup h1,rfl⟩)
   refine ⟨a,v0,h1,⟨o,sb.extBut a o ha h2,h3⟩,fun j k u hj hu=>h4 j k u hj (lput_name hi hj (fun q=>?_) hu)⟩
   rw [q,hk] at hy
   exact hy.elim nofun nofun
 ·obtain ⟨k',hk,hkq⟩:=F.names i x _ hi
  obtain rfl:k'= .cell:=hkq.elim id fun q=>nomatch q.1
  obtain ⟨a,v0,h1,hc,h4⟩:=F.cell x (.inl hk)
  refine wpAny_storeName_cell F.kind hk h1 hc fun h' hc' sb=>?_
  have hm:a∈φ.env.cells.map (·.2):=List.mem_map.mpr ⟨_,mem_of_lookup h1,rfl⟩
  obtain ⟨R',S,pr⟩:=own_changed (t:=g.s.toks) R F (List.mem_cons_of_mem _ hm) (hX.c.elim (fun q=>q _ (List.mem_cons_of_mem _ hm)) fun q=>absurd hi (q _ _)) sb (hc'.imp fun o q=>⟨q.1,fun vs e=>nomatch q.2.symm.trans e⟩)
  refine ⟨_,rfl,R',S,rfl,_,{F with ns:=F.ns.imp fun m q=>?_,cell:=fun y hy=>?_,priv:=pr},q⟩
  ·obtain ⟨⟨o',es,ep,ho',hr⟩,hm'⟩:=q
   refine ⟨⟨o',es,ep,sb.extBut _ _ (fun q=>F.apart.1 (q▸hm)) ho',hr⟩,fun j y k u hj hu hy=>hm' j y k u hj (lput_name hi hj (fun q=>?_) hu) hy⟩
   rw [q,hk] at hy;cases hy
  ·by_cases q:y=x
   ·subst q
    refine ⟨a,some V,h1,hc',fun j k u hj hu=>⟨V,rfl,?_⟩⟩
    rcases lput_cases hu with ⟨_,rfl⟩ | ⟨n,_⟩
    ·exact hv
    ·exact absurd (F.idx hi hj) n
   ·obtain ⟨b,v1,g1,⟨o1,g2,g3⟩,g4⟩:=F.cell y hy
    exact ⟨b,v1,g1,⟨o1,sb.extBut _ _ (fun e=>q (F.apart.2 y x a (e▸g1) h1)) g2,g3⟩,fun j k u hj hu=>g4 j k u hj (lput_name hi hj q hu)⟩
theorem TgOk.one (hi:Own nm i x):TgOk c nm (.Name x p) (.one i):=fun φ X hd lc P v V g E hX hk h hv q=>(sim_store hX h.fr hi hv q).tree fun _ _ _=>wpAny_assign_Name
structure TsOk (c:Wo)(nm:Nms)(ts:List Expr)(is:List Nat):Prop where
 run:∀(φ:Fr) (X:List Addr) (lc:Loc) (P:Loc→Prop) (vs:List MV) (Vs:List Value) (g:Sg) (E:Hp→Prop),StoreIn φ nm X→FR c φ.env nm lc g→VRs c g.m vs Vs→lputs lc is vs P→Sm c (φ.x X) (assignInOrder ((assignEach ts φ.env).map (·.2)) Vs) g (fun _=>AN c φ nm g.H P) E
 len:∀env,(assignEach ts env).length=is.length
 plain:∀env,(assignEach ts env).findIdx? (·.1) =none
theorem TsOk.nil:TsOk c nm [] []:=⟨fun φ X lc P vs Vs g E hX F hv q R=>by
 cases vs with
 | nil=>cases hv;exact wpAny_assignInOrder_none (nd_same R ⟨rfl,lc,F,q⟩)
 | cons _ _=>exact q.elim,fun _=>rfl,fun _=>rfl⟩
theorem TsOk.cons {ts:List Expr}{is:List Nat}(hi:Own nm i x)(hs:TsOk c nm ts is):TsOk c nm (.Name x p::ts) (i::is) where
 run:=fun φ X lc P vs Vs g E hX F hv q=>by
  cases vs with
  | nil=>exact q.elim
  | cons v vs=>
   obtain ⟨V,Vs,rfl,hv,hvs⟩:=hv
   show Sm c _ (holding Vs (assign (.Name x p) φ.env V) >>= fun _=>assignInOrder ((assignEach ts φ.env).map (·.2)) Vs) g _ _
   refine (Sm.holding ((sim_store hX F hi hv (P:=fun l=>lputs l is vs P) q).tree fun _ _ _=>wpAny_assign_Name)).bind fun _ g' R S n=>?_
   obtain ⟨e,lc',F,q⟩:=n
   rw [← e]
   exact hs.run φ X lc' P vs Vs g' E hX F (hvs.up S.up) q
 len:=fun env=>congrArg (· +1) (hs.len env)
 plain:=fun env=>by
  have e2:assignEach (.Name x p::ts) env= (false,fun v=>assign (.Name x p) env v) ::assignEach ts env:=rfl
  rw [e2,List.findIdx?_cons,hs.plain];rfl
theorem TgOk.many {ts:List Expr}{is:List Nat}{k:Nat}(hs:TsOk c nm ts is):TgOk c nm (.Tuple ts k p) (.many is):=fun φ X hd lc P v V g E hX hk h hv q R=>by
 obtain ⟨h0,q⟩:=q
 cases v with
 | tup xs=>
  obtain ⟨a,vs,k',rfl,_,z,r⟩:=hv
  refine wpAny_assign_Tuple (h.ok.off (hk.trans h0)) (isTuple (R.z _ _ z)) (by rw [hs.len,lputs_len q,r.length];rfl) (hs.plain _) fun h' hk=>?_
  have kk:∀b o,g.at b=some o→h'.get? b=some o:=fun b o e=>hk b o (Nat.ne_of_lt (Heap.lt_size e)) e
  have S:Step [] [] g (g.on h' g.s.toks):= .of_ext kk
  have R':SR c (g.on h' g.s.toks):=R.of_ext kk
  exact wpAny_mono (hs.run φ X lc P xs vs (g.on h' g.s.toks) E hX (h.step S).fr r q R') (fun _ _ q=>q.since (S.weaken nofun) R R') fun _ _ q=>q.xsince (S.weaken nofun) R R'
 | _=>exact q.elim
end
end Mine
end
section
namespace Mine
open PySem PySem.W PySem.Calls PyProof.Rows PySem.SeqAt
noncomputable def LoopE (c:Wo)(φ:Fr)(g₀:Sg)(D:Flow→Sg→Prop)(E:Hp→Prop)(q:Result)(s:Shared):Prop:=match q with
 | .ok f=>Nd c [] φ.X g₀ (D f) s
 | .error e=>XE c ⟨φ.A,φ.l,φ.X,FlL φ.L⟩ g₀ E e s
structure Ends (c:Wo)(φ:Fr)(nm:Nms)(K:Kx)(N:Loc→Hp→Prop)(D:Flow→Sg→Prop):Prop where
 next:∀lc g,FR c φ.env nm lc g→N lc g.H→D .next g
 brk:∀lc g,FR c φ.env nm lc g→K.brk lc g.H→D .next g
 ret:∀V g,VN c K.ret V g→D (.ret V) g
section
variable {c:Wo}{φ:Fr}{nm:Nms}{target e:Expr}{t:Tg}{body:List Stmt}{b:Cs}{K:Kx}{N:Loc→Hp→Prop}{E:Hp→Prop}{g g' g₀:Sg}{lc lc₀:Loc}{D:Flow→Sg→Prop}{p:Pos}
theorem note_x {Mo:Model}{X:List Addr}{Ev:Value}{s:Shared}{E':Value→Shared→Prop}(hfr:φ.A.frames=some φ.l)(W:KS c φ K)(R₀:SR c g)(h:XE c (φ.x X) g E Ev s):wpAny Mo φ.A (noteFrame Ev φ.env) (fun _ s'=>XE c ⟨φ.A,φ.l,X,FlL φ.L⟩ g E Ev s') E' s:=by
 obtain ⟨⟨A,l,n,hd⟩,env,L⟩:=φ
 obtain ⟨r,e⟩:=W.head
 have e:l=env::r:=e
 subst e
 exact notes hfr W.L R₀ h fun h' q=>q
theorem came_back {Mo:Model}{X:List Addr}{Ev:Value}{s:Shared}{E':Value→Shared→Prop}(hL:φ.env.frame=some φ.L)(R₀:SR c g)(h:XE c ⟨φ.A,φ.l,X,FlL φ.L⟩ g E Ev s)(k:∀h',XE c (φ.x X) g E Ev {s with heap:=h'}→E' Ev {s with heap:=h'}):cameBackBy Mo φ.A φ.env E' Ev s:=by
 unfold cameBackBy
 have h0:=h
 obtain ⟨g',rfl,R,S,F,⟨_,rfl,Ra⟩,q⟩:=h
 obtain ⟨e,rfl,o,vs,r1,r2,r4,r5,r6,b,r7,r8,hb,T,rfl,_⟩:=Ra
 refine wpAny_bind (wpAny_field r4 r6 hb ?_)
 refine wpAny_ite_split (fun hab=>by simp at hab) fun _=>?_
 rw [hL]
 exact flights (fun f e=>⟨_,e⟩) R₀ (some φ.L) h0 fun h'' q=>k h'' (q.mono fun _ _ _ x=>x.back (fun _ q=>q) rfl fun f e=> .inr (.inr e))
theorem Step.butNew {l:List Env}{X IS:List Addr}{h:Heap}{t:Nat}(S:Step l X g₀ g)(hn:∀a∈IS,g₀.at a=none)(k:∀b o,b∉IS→g.at b=some o→h.get? b=some o):Step l X g₀ (g.on h t):={S with
 same:=S.same.elim fun _ q=>q.elim fun _ e=>⟨h,t,by show ({g.s with heap:=h,toks:=t}:Shared) =_;rw [e]⟩
 keep:=fun a o e n x=>(S.keep a o e n x).imp fun sl q=>⟨k a _ (fun i=>nomatch (hn a i).symm.trans e) q.1,q.2⟩
 live:=fun a o e=>(S.live a o e).imp fun o' e'=>k a o' (fun i=>nomatch (hn a i).symm.trans e) e'}
theorem drop_cons {α:Type}{xs rest:List α}{x:α}{i:Nat}(h:xs.drop i=x::rest):xs[i]?=some x∧xs.drop (i+1) =rest∧i < xs.length:=by
 have hx:xs[i]?=some x:=by
  have:=List.getElem?_drop (xs:=xs) (i:=i) (j:=0)
  rw [h] at this;exact this.symm
 exact ⟨hx,by rw [List.drop_add_one_eq_tail_drop,h];rfl,(List.getElem?_eq_some_iff.mp hx).1⟩
theorem for_code {I:Addr}{IS:List Addr}{xs:List MV}{St:Nat→Sg→Prop}(W:KS c φ K)(Z:Ends c φ nm K N D)(hT:TgOk c nm target t)(hB:BOk c nm body b)(It:Itr c φ.A target I IS xs St)(R₀:SR c g₀)(h₀:Here c φ nm lc₀ g₀)(hIS:∀a∈IS,g₀.at a=none)(rest:List MV) :
  ∀(i:Nat) (lc:Loc) (g:Sg),xs.drop i=rest→i≤xs.length→Step [] φ.X g₀ g→SR c g→St i g→FR c φ.env nm lc g→forL (fun v M l h=>put K.hd t v l fun l'=>b K M l' h) rest N lc g.H→
   codeAny (model c.prog c.w) φ.A (.forLoop target (.ref I) body [] φ.env) (LoopE c φ g₀ D K.E) g.s:=by
 have nI:∀a∈φ.X,a∉IS:=fun a ha q=>h₀.new (hIS a q) ha
 induction rest with
 | nil=>
  intro i lc g hd hi S R st F q
  obtain rfl:i=xs.length:=Nat.le_antisymm hi (List.drop_eq_nil_iff.mp hd)
  refine codeAny_of_tree (wpAny_noted (m:=forTurn target (.ref I) body [] φ.env) ?_)
  unfold forTurn
  have dn:=It.done g (fun _ _=>False) (fun s'=>codeAny (model c.prog c.w) φ.A (.block [] φ.env) (LoopE c φ g₀ D K.E) s') R st fun h' tk hk=>
   codeAny_block (wpAny_execs_nil ⟨g.on h' tk,rfl,R.of_but (X:=IS) (fun a o e ha=>hk a o ha e) fun a ha=>(It.priv _ _ st a ha).1,S.butNew hIS hk,Z.next lc _ (F.keep (g':=g.on h' tk) (.refl _) (fun a ha o e=>⟨o.slots,hk a o (nI a ha) e⟩) fun a ha=>(F.priv a ha).p.rec fun a b=>⟨a,b⟩) q⟩)
  refine wpAny_bind (wpAny_standAt (wpAny_bind (wpAny_onRaise (wpAny_mono dn (fun r s' q=>?_) fun _ _ f=>f.elim))))
  obtain ⟨rfl,q⟩:=q
  exact wpAny_pure ⟨rfl,q⟩
 | cons x rest ih=>
  intro i lc g hd hi S R st F q
  obtain ⟨hx,hd',hlt⟩:=drop_cons hd
  refine codeAny_of_tree (wpAny_noted (m:=forTurn target (.ref I) body [] φ.env) ?_)
  unfold forTurn
  have sp:=It.step i x g (notedBy (model c.prog c.w) φ.A φ.env fun e s'=>LoopE c φ g₀ D K.E (.error e) s')
   (fun v s'=>wpAny (model c.prog c.w) φ.A (assign target φ.env v) (fun _ s₂=>wpAny (model c.prog c.w) φ.A (execs body φ.env) (fun f s₃=>match f with
     | .next | .cont=>codeAny (model c.prog c.w) φ.A (.forLoop target (.ref I) body [] φ.env) (LoopE c φ g₀ D K.E) s₃
     | .brk=>LoopE c φ g₀ D K.E (.ok .next) s₃
     | .ret v=>LoopE c φ g₀ D K.E (.ok (.ret v)) s₃) (notedBy (model c.prog c.w) φ.A φ.env fun e s'=>LoopE c φ g₀ D K.E (.error e) s') s₂)
    (notedBy (model c.prog c.w) φ.A φ.env fun e s'=>LoopE c φ g₀ D K.E (.error e) s') s') hx R st fun V g₁ hv S₁ R₁ hH st₁=>?_
  ·refine wpAny_bind (wpAny_standAt (wpAny_bind (wpAny_onRaise (wpAny_mono sp (fun r s' q=>?_) fun _ _ q=>wpAny_standAt q))))
   obtain ⟨v,rfl,q⟩:=q
   refine wpAny_bind (wpAny_mono q (fun _ s₁ q₁=>wpAny_bind (wpAny_mono q₁ (fun _ s₂ q₂=>wpAny_bind (wpAny_mono q₂ (fun f s₃ q₃=>?_) fun _ _ z=>z)) fun _ _ z=>z)) fun _ _ z=>z)
   cases f with
   | next=>exact wpAny_pure ⟨rfl,q₃⟩
   | cont=>exact wpAny_pure ⟨rfl,q₃⟩
   | brk=>exact wpAny_pure q₃
   | ret v=>exact wpAny_pure q₃
  ·have S₁':Step [] φ.X g₀ g₁:=S.after R₀ R S₁ hIS
   have F₁:FR c φ.env nm lc g₁:=F.step S₁ nI
   have h₁:=h₀.next S₁' F₁
   have out:∀Ev s',XE c (φ.x φ.X) g₁ K.E Ev s'→notedBy (model c.prog c.w) φ.A φ.env (fun e s'=>LoopE c φ g₀ D K.E (.error e) s') Ev s':=fun Ev s' q=>note_x h₀.ok.frames W R₀ (q.xsince (φ:=φ.x φ.X) S₁' R₀ R₁)
   have q:put K.hd t x lc fun l'=>b K (forL (fun v M l h=>put K.hd t v l fun l'=>b K M l' h) rest N) l' g.H:=q
   refine wpAny_mono (hT φ φ.X K.hd lc _ x V g₁ K.E .all W.hd.symm h₁ hv q R₁) (fun _ s₂ q=>?_) out
   obtain ⟨g₂,rfl,R₂,S₂,e₂,lc₂,F₂,q⟩:=q
   refine wpAny_mono (hB φ K _ lc₂ g₂ W (h₁.next S₂ F₂) ((e₂.trans hH).symm▸q) R₂) (fun f s₃ q=>?_) fun Ev s' q=>out Ev s' (q.xsince (φ:=φ.x φ.X) S₂ R₁ R₂)
   obtain ⟨g₃,rfl,R₃,S₃,q⟩:=q
   have S₃':=(S₁'.trans R₀ R₁ S₂).trans R₀ R₂ S₃
   cases f with
   | next=>
    obtain ⟨lc₃,F₃,q⟩:=q
    exact ih (i+1) lc₃ g₃ hd' hlt S₃' R₃ (It.frame _ _ _ _ st₁ R₁ R₃ (S₂.trans R₁ R₂ S₃) fun a ha=>⟨(F₁.priv a ha).p,nI a ha⟩) F₃ q
   | cont=>exact q.elim
   | brk=>obtain ⟨lc₃,F₃,q⟩:=q;exact ⟨g₃,rfl,R₃,S₃',Z.brk lc₃ g₃ F₃ q⟩
   | ret v=>exact ⟨g₃,rfl,R₃,S₃',Z.ret v g₃ q⟩
end
end Mine
end
section
namespace Mine
open PySem PySem.W PySem.Calls PyProof.Rows PySem.SeqAt
noncomputable def NoSet (it:Expr):Prop:=∀env x,foldedSetIterable it env x=pure x
noncomputable def NoComp (e:Expr):Prop:=∀line env,swapsWith e none line env=pure false
section
variable {c:Wo}{φ:Fr}{nm:Nms}{target e it:Expr}{t:Tg}{body:List Stmt}{b a:Cs}{K:Kx}{N:Loc→Hp→Prop}{E:Hp→Prop}{g g' g₀:Sg}{lc lc₀:Loc}{D:Flow→Sg→Prop}{p:Pos}{m:Cd MV}
theorem XE.wide {X:List Addr}{Ev:Value}{s:Shared}(q:XE c (φ.x []) g E Ev s):XE c (φ.x X) g E Ev s:=q.rec fun g' e R' S n=>⟨g',e,R',S.weaken nofun,n.back (fun _ q=>q) rfl fun _ q=>q⟩
theorem KS.loop {K':Kx}(W:KS c φ K)(h1:K'.cl=K.cl)(h2:K'.hd=K.hd):KS c φ K':=⟨⟨W.base,h1▸W.call,h2.trans W.hd⟩,W.head,W.L⟩
theorem for_run {xs:List MV}{itv:Value}(W:KS c φ K)(Z:Ends c φ nm K N D)(hT:TgOk c nm target t)(hB:BOk c nm body b)(R₀:SR c g₀)(h₀:Here c φ nm lc₀ g₀)(I:ItR c φ.A target g₀ xs itv g)(S:Step [] φ.X g₀ g)(R:SR c g)(F:FR c φ.env nm lc g)
  (q:forL (fun v M l h=>put K.hd t v l fun l'=>b K M l' h) xs N lc g.H):wpAny (model c.prog c.w) φ.A (runOwn (.forLoop target itv body [] φ.env) φ.env) (fun f=>Nd c [] φ.X g₀ (D f)) (XE c (φ.x φ.X) g₀ K.E) g.s:=by
 obtain ⟨I,IS,St,rfl,It,hIS,st⟩:=I
 refine wpAny_runOwn (codeAny_mono (for_code W Z hT hB It R₀ h₀ hIS xs 0 lc g rfl (Nat.zero_le _) S R st F q) fun q s' hq=>?_)
 cases q with
 | ok f=>exact hq
 | error e=>exact came_back W.L R₀ hq fun h' q'=>q'
theorem SOk.for {mi:Cd (List MV)}(hs:NoSet it)(hI:IOk c nm target it mi)(hT:TgOk c nm target t)(hB:BOk c nm body b):SOk c nm (.For target it body [] p) (forS t mi b):=fun φ K N lc g W h hm R=>by
 refine wpAny_bind (wpAny_standAt (wpAny_bind (wpAny_mono (hI φ K lc _ g W.toKOk h hm R) (fun x s q=>?_) fun Ev s' q=>XE.wide q)))
 obtain ⟨g₁,rfl,R₁,S₁,q⟩:=q
 refine wpAny_bind (wpAny_of_eq (hs φ.env x) (wpAny_bind (wpAny_standAt (wpAny_bind (wpAny_holding (wpAny_mono (q R₁) (fun itv s q=>?_) fun Ev s' q=>XE.wide (q.xsince (φ:=φ.x []) S₁ R R₁)))))))
 obtain ⟨g₂,rfl,R₂,S₂,xs,_,q,I⟩:=q
 have S:=S₁.trans R R₁ S₂
 exact for_run (K:=K.loop N) (W.loop rfl rfl) ⟨fun lc g F q=>⟨lc,F,q⟩,fun lc g F q=>⟨lc,F,q⟩,fun V g q=>q⟩ hT hB R h I (S.weaken nofun) R₂ (h.step S).fr q
theorem SOk.while {ct:Cd Bool}(hT:TOk c nm e ct)(hB:BOk c nm body b):SOk c nm (.While e body [] p) (whS ct b):=fun φ K N lc g W h hm R=>by
 refine wpAny_While ?_
 have W':KS c φ ⟨K.cl,noE,K.hd,K.ret,N⟩:=W.loop rfl rfl
 have key:∀(n:Nat) (lc':Loc) (g':Sg),Step [] φ.X g g'→SR c g'→FR c φ.env nm lc' g'→whl ct b ⟨K.cl,noE,K.hd,K.ret,N⟩ N n lc' g'.H→codeAny (model c.prog c.w) φ.A (.whileLoop e body [] φ.env) (LoopE c φ g (SN c φ nm K N) noE) g'.s:=by
  intro n
  induction n with
  | zero=>intro lc' g' S R' F q;exact q.elim
  | succ n ih=>
   intro lc' g' S R' F q
   have out:∀ {X:List Addr}{g₁:Sg} Ev s',XE c (φ.x X) g₁ noE Ev s'→notedBy (model c.prog c.w) φ.A φ.env (fun e s'=>LoopE c φ g (SN c φ nm K N) noE (.error e) s') Ev s':=fun Ev s' q=>q.rec fun _ _ _ _ x=>x.E.elim
   refine codeAny_of_tree (wpAny_noted (m:=whileTurn e body [] φ.env) ?_)
   unfold whileTurn
   refine wpAny_bind (wpAny_mono (hT φ _ lc' _ g' W'.toKOk (h.next S F) q R') (fun r s q=>?_) out)
   obtain ⟨g₁,rfl,R₁,S₁,q⟩:=q
   have S₁':=S.trans R R' (S₁.weaken nofun)
   have F₁:=F.step S₁ nofun
   cases r with
   | false=>exact wpAny_bind (wpAny_execs_nil (wpAny_pure ⟨g₁,rfl,R₁,S₁',lc',F₁,q⟩))
   | true=>
    refine wpAny_bind (wpAny_mono (hB φ _ _ lc' g₁ W' (h.next S₁' F₁) q R₁) (fun f s q=>?_) out)
    obtain ⟨g₂,rfl,R₂,S₂,q⟩:=q
    have S₂':=S₁'.trans R R₁ S₂
    cases f with
    | next=>obtain ⟨lc₂,F₂,q⟩:=q;exact wpAny_pure ⟨rfl,ih lc₂ g₂ S₂' R₂ F₂ q⟩
    | brk=>obtain ⟨lc₂,F₂,q⟩:=q;exact wpAny_pure ⟨g₂,rfl,R₂,S₂',lc₂,F₂,q⟩
    | cont=>exact q.elim
    | ret V=>exact wpAny_pure ⟨g₂,rfl,R₂,S₂',q⟩
 refine codeAny_mono (key 1000 lc g .refl R h.fr hm) fun q s' hq=>?_
 cases q with
 | ok f=>exact hq
 | error e=>exact hq.rec fun _ _ _ _ x=>x.E.elim
theorem set_get {H:Hp}{i:Nat}{k k':Cell}(e:H[i]?=some k):(H.set i k')[i]?=some k':=List.getElem?_set_self (List.getElem?_eq_some_iff.mp e).1
theorem SR.mark {i:Nat}{o:MO}{md md':Md}(R:SR c g)(e:g.H[i]?=some ⟨md,o⟩)(n:md≠ .frz)(n':md'≠ .frz):SR c (g.put i ⟨md',o⟩):=by
 obtain ⟨a,ha,C⟩:=R.cell e
 exact R.changed (h:=g.s.heap) (t:=g.s.toks) e ha (fun _ _ _ e=>e) (fun o' z=>nomatch (C.z n).symm.trans z) ⟨C.o,fun _=>C.z n,C.sys,fun q=>absurd q n'⟩
theorem Step.unlock {X:List Addr}{i:Nat}{o o':MO}(e:g.H[i]?=some ⟨.chg,o⟩)(S:Step [] X (g.put i ⟨.lock,o⟩) g'):Step [] X g (g'.put i ⟨.chg,o'⟩):=
 have mu:∀b,Mutb (g.put i ⟨.lock,o⟩) b→Mutb g b:=fun b ⟨j,o2,e1,e2⟩=>(get_set e2).elim (fun q=>nomatch q.2) fun q=>⟨j,o2,e1,q.2⟩
 ⟨S.same,S.up,fun j k ek n=>by
  have q:i≠j:=fun q=>by subst q;cases e.symm.trans ek;exact n rfl
  exact (List.getElem?_set_ne q).trans (S.md j k ((List.getElem?_set_ne q).trans ek) n),fun b o ho n x=>S.keep b o ho (fun q=>n (mu b q)) x,S.fresh,S.freshr,S.live⟩
theorem SOk.forK {i:Nat}{x:Str}{q:Pos}(hi:EOk c nm (.Name x q) (lv i))(hT:TgOk c nm target t)(hB:BOk c nm body b):SOk c nm (.For target (.Name x q) body [] p) (forK t i b):=fun φ K N lc g W h hm R=>by
 obtain ⟨h0,hm⟩:=hm
 have hm:lv i K lc (fun v h=>cellD v h fun a es=>es.length≤sizeMost∧forL (fun v M l h=>put K.hd t v l fun l'=>b ⟨K.cl,noE,K.hd,fun _ _=>False,fun _ _=>False⟩ M l' h) (keysV es) (unlock a es N) lc (h.set a ⟨.lock, .dict es⟩)) g.H:=hm
 refine wpAny_bind (wpAny_standAt (wpAny_bind (wpAny_mono (hi φ K lc _ g W.toKOk h hm R) (fun V s q=>?_) fun Ev s' q=>XE.wide q)))
 obtain ⟨g₁,rfl,R₁,S₁,v,hv,q⟩:=q
 refine wpAny_bind (wpAny_of_eq rfl (wpAny_bind (wpAny_standAt (wpAny_bind (wpAny_holding ?_)))))
 cases v with
 | ref j=>
  obtain ⟨es,e,hes,q⟩:=q
  obtain ⟨D,rfl,hD⟩:=hv
  have C:=R₁.cells j _ D e hD
  obtain ⟨ob,c1,c2⟩:=C.o
  obtain ⟨kvs,d1,d2⟩:=c2
  have h₁:=h.step S₁
  have Rl:=R₁.mark (md':= .lock) e nofun nofun
  have hl:Here c φ nm lc (g₁.put j ⟨.lock, .dict es⟩):=⟨h₁.fr.keep (.refl _) (fun a _ o e=>⟨o.slots,e⟩) fun a ha=>(h₁.fr.priv a ha).p.rec fun a b=>⟨a,b⟩,h₁.ok.frames,fun e he=>(h₁.ok.frs e he).rec fun L o a1 a2 a3 a4 a5=>⟨L,o,a1,a2,a3.rec fun a b=>⟨a,b⟩,a4,a5⟩,h₁.ok.depth,h₁.ok.units,h₁.ok.hnd⟩
  refine wpAny_mono (iter_dict (φ:=φ.x []) (g:=g₁.put j ⟨.lock, .dict es⟩) (target:=target) (E:=noE) (Q:=fun xs h=>xs=keysV es∧forL (fun v M l h=>put K.hd t v l fun l'=>b ⟨K.cl,noE,K.hd,fun _ _=>False,fun _ _=>False⟩ M l' h) (keysV es) (unlock j es N) lc h) (h.ok.off (W.hd▸h0)) (Heap.dictOf_iff.mpr ⟨ob,c1,d1⟩) C.sys (.inr ⟨j,_,hD,set_get e,nofun⟩) d2 (eq_le (List.length_map _) hes) ⟨rfl,q⟩ Rl) (fun itv s n=>?_) fun _ _ q=>q.rec fun _ _ _ _ x=>x.E.elim
  obtain ⟨g₂,rfl,R₂,S₂,xs,_,⟨rfl,q⟩,I⟩:=n
  refine wpAny_mono (for_run (K:=⟨K.cl,noE,K.hd,fun _ _=>False,fun _ _=>False⟩) (N:=unlock j es N) (D:=fun f g=>f= .next∧∃lc,FR c φ.env nm lc g∧unlock j es N lc g.H) (W.loop rfl rfl) ⟨fun lc g F q=>⟨rfl,lc,F,q⟩,fun lc g F q=>q.elim,fun V g q=>q.rec fun _ _ q=>q.elim⟩ hT hB Rl hl I (S₂.weaken nofun) R₂ (hl.step S₂).fr q) (fun f s n=>?_) fun _ _ q=>q.rec fun _ _ _ _ x=>x.E.elim
  obtain ⟨g₃,rfl,R₃,S₃,rfl,lc₃,F₃,e₃,q⟩:=n
  exact ⟨g₃.put j (cD es),rfl,R₃.mark e₃ nofun nofun,(S₁.weaken nofun).trans R R₁ (S₃.unlock e),lc₃,F₃.keep (.refl _) (fun a _ o e=>⟨o.slots,e⟩) fun a ha=>(F₃.priv a ha).p.rec fun a b=>⟨a,b⟩,q⟩
 | _=>exact q.elim
end
end Mine
end
section
namespace Mine
open PySem PySem.W PySem.Calls PyProof.Rows PySem.SeqAt
structure NoSwap (t e:Expr):Prop where
 sole:∀line env,swapsWithSole [t] e line env=pure false
noncomputable def One (t:Expr):Prop:=∀env V,assignStores env V none ((assignEach [t] env).map (·.2)) = (assign t env V >>= fun _=>pure .next)
section
variable {c:Wo}{φ:Fr}{nm:Nms}{target e it o i:Expr}{t:Tg}{body:List Stmt}{b a:Cs}{K:Kx}{N:Loc→Hp→Prop}{E:Hp→Prop}{g g' g₀:Sg}{lc lc₀:Loc}{D:Flow→Sg→Prop}{p:Pos}{m mo mi:Cd MV}
theorem BOk.nil:BOk c nm [] skp:=fun φ K N lc g W h hm=> .pure ⟨lc,h.fr,hm⟩
theorem BOk.cons {s:Stmt}(h1:SOk c nm s a)(h2:BOk c nm body b):BOk c nm (s::body) (sq a b):=fun φ K N lc g W h hm=>by
 show Sm c _ (exec s φ.env >>= fun f=>match f with | .next=>execs body φ.env | f=>pure f) g _ _
 refine (h1 φ K (b K N) lc g W h hm).bind fun f g' R S n=>?_
 cases f with
 | next=>obtain ⟨lc',F,q⟩:=n;exact h2 φ K N lc' g' W (h.next S F) q
 | brk=>exact .pure n
 | cont=>exact n.elim
 | ret V=>exact .pure n
theorem Sm.next {β δ:Type}{X:List Addr}{t:Sem β}{f:β→Sem δ}{N:β→Sg→Prop}{M:δ→Sg→Prop}(h:Sm c (φ.x []) t g N E)(k:∀b g',SR c g'→Step [] [] g g'→N b g'→Sm c (φ.x X) (f b) g' M E):Sm c (φ.x X) (t >>= f) g M E:=fun R=>
 wpAny_bind (wpAny_mono (h R) (fun b s q=>by
  obtain ⟨g',rfl,R',S,n⟩:=q
  exact wpAny_mono (k b g' R' S n R') (fun _ _ q=>q.since (S.weaken nofun) R R') fun _ _ q=>q.xsince (φ:=φ.x X) (S.weaken nofun) R R') fun _ _ q=>XE.wide q)
theorem SOk.exS (hc:NoComp e)(he:EOk c nm e m):SOk c nm (.Expr e p) (exS m):=fun φ K N lc g W h hm=>by
 rw [exec_Expr φ.env e p (by unfold interactive;rw [h.fr.kind];rfl) (hc _ _)]
 exact .standAt ((he φ K lc _ g W.toKOk h hm).next fun V g' R S n R=>wpAny_dropValue (nd_same R ⟨lc,(h.step S).fr,n.rec fun _ _ q=>q⟩))
theorem SOk.brkS:SOk c nm (.Break p) brkS:=fun φ K N lc g W h hm=> .standAt (t:=fun _=>Pure.pure Flow.brk) (.pure ⟨lc,h.fr,hm⟩)
theorem SOk.pass:SOk c nm (.Pass p) skp:=fun φ K N lc g W h hm=> .standAt (t:=fun _=>Pure.pure Flow.next) (.pure ⟨lc,h.fr,hm⟩)
theorem SOk.retS (he:EOk c nm e m):SOk c nm (.Return (some e) p) (retS m):=fun φ K N lc g W h hm=>
 .standAt (t:=fun _=>eval e φ.env >>= fun v=>Pure.pure (Flow.ret v)) ((he φ K lc _ g W.toKOk h hm).next fun V g' R S n=> .pure n)
theorem SOk.ret0:SOk c nm (.Return none p) (Mine.retS (cst .none)):=fun φ K N lc g W h hm=> .standAt (t:=fun _=>Pure.pure (Flow.ret .none)) (.pure ⟨.none,rfl,hm⟩)
theorem SOk.ifS {ct:Cd Bool}{body':List Stmt}(ht:TOk c nm e ct)(hb:BOk c nm body b)(ha:BOk c nm body' a):SOk c nm (.If e body body' p) (ifS ct b a):=fun φ K N lc g W h hm=>
 .standAt (t:=fun _=>isTrue e φ.env (eval e φ.env) >>= fun c=>if c then execs body φ.env else execs body' φ.env) ((ht φ K lc _ g W.toKOk h hm).next fun r g' R S n=>by
  cases r with
  | true=>exact hb φ K N lc g' W (h.step S) n
  | false=>exact ha φ K N lc g' W (h.step S) n)
noncomputable def NoSw2 (c:Wo)(nm:Nms)(t e:Expr):Prop:=∀env lc g,FR c env nm lc g→swappedStores [t] e env=pure none
theorem asg_of {M:Unit→Sg→Prop}{t:Expr}{f:Value→Sg→Prop}(hs:NoSwap t e)(h2:NoSw2 c nm t e)(h1:One t){q:Pos}(h:Here c φ nm lc g)(he:Sm c (φ.x []) (eval e φ.env) g f E)
  (k:∀V g',SR c g'→Step [] [] g g'→f V g'→Sm c (φ.x φ.X) (assign t φ.env V) g' M E):Sm c (φ.x φ.X) (exec (.Assign [t] e q) φ.env) g (fun f g=>f= .next∧M () g) E:=by
 rw [exec_Assign]
 refine .standAt ?_
 rw [hs.sole,pure_bind,if_neg Bool.false_ne_true]
 refine he.next fun V g₁ R₁ S₁ n=>?_
 rw [h2 φ.env lc g h.fr,pure_bind,h1]
 exact (k V g₁ R₁ S₁ n).bind fun _ g₂ R₂ S₂ n=> .pure ⟨rfl,n⟩
theorem SOk.asS {te:Expr}{q:Pos}(hs:NoSwap te e)(h2:NoSw2 c nm te e)(h1:One te)(ht:TgOk c nm te t)(he:EOk c nm e m):SOk c nm (.Assign [te] e q) (asS t m):=fun φ K N lc g W h hm=>
 (asg_of (M:=fun _ g=>∃lc,FR c φ.env nm lc g∧N lc g.H) hs h2 h1 h (he φ K lc _ g W.toKOk h hm) fun V g' R S n=>n.rec fun v hv q=>(ht φ φ.X K.hd lc _ v V g' K.E .all W.hd.symm (h.step S) hv q).mono fun _ g₂ _ _ n=>n.2.imp fun lc q=>⟨q.1,n.1.symm▸q.2⟩).mono fun f g' _ _ n=>by rw [n.1];exact n.2
theorem SOk.ixS (hs:NoSwap (.Subscript o i p) e)(ho:EOk c nm o mo)(hi:EOk c nm i mi)(he:EOk c nm e m){q:Pos}:SOk c nm (.Assign [.Subscript o i p] e q) (ixS mo mi m):=fun φ K N lc g W h hm=>
 (asg_of (M:=fun _ g=>∃lc,FR c φ.env nm lc g∧N lc g.H) hs (fun _ _ _ _=>rfl) (fun _ _=>rfl) h (he φ K lc _ g W.toKOk h hm) fun V g₁ R₁ S₁ n=>by
  obtain ⟨v,hv,q⟩:=n
  have h₁:=h.step S₁
  rw [assign_Subscript]
  refine (Sm.holding (ho φ K lc _ g₁ W.toKOk h₁ q)).next fun U g₂ R₂ S₂ n=>?_
  obtain ⟨u,hu,q⟩:=n
  have h₂:=h₁.step S₂
  refine (Sm.holding (hi φ K lc _ g₂ W.toKOk h₂ q)).next fun I g₃ R₃ S₃ n=>?_
  obtain ⟨k,hk,q⟩:=n
  exact .standAt (.next (.holding (sim_setItem (N:=N lc) (hu.st S₃) hk ((hv.st S₂).st S₃) q)) fun _ g₄ R₄ S₄ n R=>wpAny_release' (nd_same R ⟨lc,((h₂.step S₃).step S₄).fr,n⟩))).mono fun f g' _ _ n=>by rw [n.1];exact n.2
end
end Mine
end
section
namespace Mine
open PySem PySem.W PySem.Calls PyProof.Rows PySem.SeqAt
theorem filterMap_full {α β:Type}(f:α→Option β):∀(l:List α),(l.filterMap f).length=l.length→∀a∈l,(f a).isSome=true
 | [],_,_,h=>nomatch h
 | x::xs,hl,a,h=>by
  have hle:(xs.filterMap f).length≤xs.length:=List.length_filterMap_le ..
  rw [List.filterMap_cons] at hl
  cases hx:f x with
  | none=>rw [hx] at hl;simp only [List.length_cons] at hl;omega
  | some b=>
   rw [hx] at hl
   simp only [List.length_cons] at hl
   rcases List.mem_cons.mp h with rfl | h
   ·rw [hx];rfl
   ·exact filterMap_full f xs (by omega) a h
noncomputable def isTup (e:Expr):Bool:=match e with
 | .Tuple .. =>true
 | _=>false
section
variable {c:Wo}{φ:Fr}{nm:Nms}{e:Expr}{K:Kx}{E:Hp→Prop}{g:Sg}{lc:Loc}{p:Pos}{m:Cd MV}
theorem NoSw2.name {x:Str}:NoSw2 c nm (.Name x p) e:=fun _ _ _ _=>rfl
theorem NoSw2.tup {ts:List Expr}{k:Nat}(h:isTup e=false):NoSw2 c nm (.Tuple ts k p) e:=fun env _ _ _=>by
 cases e with
 | Tuple vs k' p'=>cases h
 | _=>rfl
theorem swapped_not {env:Env}{ts vs:List Expr}{k k':Nat}{p p':Pos}(h:∃x px,Expr.Name x px∈ts∧env.kindOf x≠some .local):swappedStores [.Tuple ts k p] (.Tuple vs k' p') env=pure none:=by
 obtain ⟨x,px,hx,hk⟩:=h
 unfold swappedStores
 dsimp only
 split
 ·rfl
 split
 ·rfl
 split
 ·rfl
 ·rename_i hn
  exfalso
  apply hn
  simp only [Bool.or_eq_true,bne_iff_ne,ne_eq]
  left
  intro hl
  have:=filterMap_full _ ts hl _ hx
  dsimp only at this
  have hf:(env.kindOf x == some NameKind.local) =false:=beq_eq_false_iff_ne.mpr hk
  rw [hf] at this
  simp at this
theorem swapped_two {env:Env}{a b:Str}{pa pb:Pos}{vs:List Expr}{k k':Nat}{p p':Pos}(hc:vs.all (constantsAlone 8) =false) :
  swappedStores [.Tuple [.Name a pa, .Name b pb] k p] (.Tuple vs k' p') env=pure none∨swappedStores [.Tuple [.Name a pa, .Name b pb] k p] (.Tuple vs k' p') env=pure (some [a,b]):=by
 unfold swappedStores
 dsimp only
 split
 ·exact .inl rfl
 split
 ·exact .inl rfl
 split
 ·exact .inl rfl
 rename_i hn
 split
 ·exact .inl rfl
 rw [hc]
 right
 simp only [Bool.or_eq_true,bne_iff_ne,ne_eq,not_or,Decidable.not_not] at hn
 have h1:=filterMap_full _ _ hn.1 (.Name a pa) (.head _)
 have h2:=filterMap_full _ _ hn.1 (.Name b pb) (.tail _ (.head _))
 dsimp only at h1 h2
 split at h1
 ·rename_i q1
  split at h2
  ·rename_i q2
   simp only [List.filterMap_cons,List.filterMap_nil,q1,q2,if_true]
   rfl
  ·cases h2
 ·cases h1
theorem NoSw2.cell {ts vs:List Expr}{k k':Nat}{p' px:Pos}{i:Nat}{x:Str}(hx:Expr.Name x px∈ts)(hi:nm[i]?=some (x, .cell)):NoSw2 c nm (.Tuple ts k p) (.Tuple vs k' p'):=fun env lc g F=>by
 obtain ⟨k',hk,hkq⟩:=F.names i x _ hi
 obtain rfl:k'= .cell:=hkq.elim id fun q=>nomatch q.1
 exact swapped_not ⟨x,px,hx,fun q=>nomatch hk.symm.trans q⟩
theorem SOk.swap {a b:Str}{pa pb q:Pos}{vs:List Expr}{k k' i j:Nat}{p p':Pos}(ne:i≠j)(hi:Own nm i a)(hj:Own nm j b)(hc:vs.all (constantsAlone 8) =false)(he:EOk c nm (.Tuple vs k' p') m) :
  SOk c nm (.Assign [.Tuple [.Name a pa, .Name b pb] k p] (.Tuple vs k' p') q) (Mine.asS (.many [i,j]) m):=fun φ K N lc g W h hm=>by
 rw [exec_Assign]
 refine .standAt ?_
 rw [show swapsWithSole [.Tuple [.Name a pa, .Name b pb] k p] (.Tuple vs k' p') q.line φ.env=pure false from rfl,pure_bind,if_neg Bool.false_ne_true]
 refine (he φ K lc _ g W.toKOk h hm).next fun V g₁ R₁ S₁ n=>?_
 obtain ⟨v,hv,hq⟩:=n
 have h₁:=h.step S₁
 rcases swapped_two (a:=a) (b:=b) (pa:=pa) (pb:=pb) (k:=k) (k':=k') (p:=p) (p':=p') (env:=φ.env) hc with e | e
 ·rw [e,pure_bind]
  show Sm c _ (assign (.Tuple [.Name a pa, .Name b pb] k p) φ.env V >>= fun _=>pure Flow.next) g₁ _ _
  exact (TgOk.many (.cons hi (.cons hj .nil)) φ φ.X K.hd lc _ v V g₁ K.E .all W.hd.symm h₁ hv hq).bind fun _ g₂ R₂ S₂ n=> .pure (n.2.imp fun lc q=>⟨q.1,n.1.symm▸q.2⟩)
 ·rw [e,pure_bind]
  obtain ⟨h0,hq⟩:=hq
  cases v with
  | tup xs=>
   obtain ⟨t,ws,k₁,rfl,_,z,r⟩:=hv
   have hl:=lputs_len hq
   have hl2:=r.length
   cases xs with
   | nil=>cases hl
   | cons x xs=>
   cases xs with
   | nil=>cases hl
   | cons y xs=>
   cases xs with
   | cons _ _=>cases hl
   | nil=>
   obtain ⟨V1,_,rfl,r1,V2,_,rfl,r2,rfl⟩:=r
   show Sm c _ (rule "assign.swapped-stores" >>= fun _=>unpackItems (.ref t) (#[V1,V2]:Array Value).size none >>= fun items=>assignInOrder ([b,a].map fun n=>bindName φ.env n) items.reverse >>= fun _=>pure Flow.next) g₁ _ _
   refine .rule fun R=>wpAny_bind (wpAny_unpackItems_tuple (h₁.ok.off (W.hd▸h0)) (isTuple (R.z _ _ z)) fun h' hk=>?_)
   have kk:∀b o,g₁.at b=some o→h'.get? b=some o:=fun b o e=>hk b o (Nat.ne_of_lt (Heap.lt_size e)) e
   have S:Step [] [] g₁ (g₁.on h' g₁.s.toks):= .of_ext kk
   have R':SR c (g₁.on h' g₁.s.toks):=R.of_ext kk
   have hx:VR c g₁.m x V1:=r1
   have hy:VR c g₁.m y V2:=r2
   have key:Sm c (φ.x φ.X) ((holding [V1] (bindName φ.env b V2) >>= fun _=>holding [] (bindName φ.env a V1) >>= fun _=>pure ()) >>= fun _=>pure Flow.next) (g₁.on h' g₁.s.toks) (SN c φ nm K N) K.E:=by
    refine Sm.bind (N:=fun _ g=>AN c φ nm g₁.H (fun l=>l=lput (lput lc j y) i x) g) ((Sm.holding ((sim_store (P:=fun l=>l=lput lc j y) .all (h₁.step S).fr hj hy rfl).tree fun _ _ _=>wpAny_bindName)).bind fun _ g₂ R₂ S₂ n=>?_) fun _ g₃ R₃ S₃ n=> .pure ?_
    ·obtain ⟨e2,lc2,F2,rfl⟩:=n
     refine Sm.bind (Sm.holding ((sim_store (P:=fun l=>l=lput (lput lc j y) i x) .all F2 hi ((hx.st S).st S₂) rfl).tree fun _ _ _=>wpAny_bindName)) fun _ g R S n=> .pure ?_
     exact ⟨n.1.trans e2,n.2⟩
    ·obtain ⟨e3,lc3,F3,rfl⟩:=n
     exact ⟨_,F3,(lput_comm ne).symm▸(show N (lput (lput lc i x) j y) g₃.H by rw [e3];exact hq)⟩
   exact wpAny_mono (Q:=fun b=>Nd c [] φ.X (g₁.on h' g₁.s.toks) (SN c φ nm K N b)) (E:=fun e=>XE c (φ.x φ.X) (g₁.on h' g₁.s.toks) K.E e) (key R') (fun _ _ q=>q.since (S.weaken nofun) R R') fun _ _ q=>q.xsince (φ:=φ.x φ.X) (S.weaken nofun) R R'
  | _=>exact hq.elim
end
end Mine
end
section
namespace Mine
open PySem PySem.W PySem.Calls PyProof.Rows PySem.SeqAt
inductive IsExcCls (h:Heap)(a:Addr):Prop
 | mk (nm q:Str)(N:Addr)(bs bm:List Value)(hdct:Bool)(sn:List Str)(sub:List Value)(ab:Bool)(col:Option Bool)(dd:Option Addr)(k0 k1 k2 k3 k5:Option Value)(newId:String) :
  h.get? a=some (excClassObj nm q a N bs bm hdct sn sub ab col dd k0 k1 k2 k3 k5 newId)→bm.contains (.type "BaseException") =true→IsExcCls h a
theorem IsExcCls.keeps {h h':Heap}{a:Addr}(x:IsExcCls h a)(k:∀b o,h.get? b=some o→h'.get? b=some o):IsExcCls h' a:=
 x.rec fun nm q N bs bm hdct sn sub ab col dd k0 k1 k2 k3 k5 newId h1 h2=>⟨nm,q,N,bs,bm,hdct,sn,sub,ab,col,dd,k0,k1,k2,k3,k5,newId,k _ _ h1,h2⟩
noncomputable abbrev bareData (T:Value):Data:= .fields #[T, .none, .none, .none, .bool false, .none]
inductive NewExc (h h':Heap)(a:Addr)(e:Addr):Prop
 | mk (o:Obj)(T:Value):(∀b o,h.get? b=some o→h'.get? b=some o)→h.get? e=none→h'.get? e=some o→o.cls= .ref a→o.data=bareData T→NewExc h h' a e
structure ExcOk (c:Wo)(x:Str)(a:Addr):Prop where
 name:c.mg x=some (.ref a)
 dbg:(x == ("__debug__":Str)) =false
 keep:keepIn c.K (.ref a) =true
 cls:IsExcCls c.G a
 make:∀(A:Around) (l:List Env) (g:Sg) (u:Str) (t:Tok) (Q E:Value→Shared→Prop),AOk ⟨A,l,0,false⟩ g→SR c g→(∀h' tk e,NewExc g.s.heap h' a e→Q (.ref e) {g.s with heap:=h',toks:=tk})→wpAny (model c.prog c.w) A (call (.ref a) [.str u t]) Q E g.s
theorem raise_made {Mo:Model}{A:Around}{s:Shared}{env:Env}{E:Value→Shared→Prop}{x:Sem Value}{a:Addr}{Q:Flow→Shared→Prop}(hh:A.handled=none)
  (h:wpAny Mo A x (fun v s₁=>∃e o T,v= .ref e∧IsExcCls s₁.heap a∧s₁.heap.get? e=some o∧o.cls= .ref a∧o.data=bareData T∧E (.ref e) s₁) E s) :
  wpAny Mo A (raiseStmt env (some x) none) Q E s:=by
 unfold raiseStmt
 refine wpAny_bind (wpAny_mono h (fun v s₁ h₁=>?_) fun _ _ x=>x)
 obtain ⟨e,o,T,rfl,⟨nm,q,N,bs,bm,hdct,sn,sub,ab,col,dd,k0,k1,k2,k3,k5,newId,hC,hbase⟩,he,hcls,hdat,hE⟩:=h₁
 have hcB:(Value.ref a::bm).contains (.type "BaseException") =true:=by rw [List.contains_cons,hbase,Bool.or_true]
 obtain ⟨oc,od,oda,osl⟩:=o
 dsimp only at hcls hdat
 subst hcls;subst hdat
 obtain ⟨hp,g,d,tk,os⟩:=s₁
 repeat (first | with_reducible refine wpAny_loadPart_at he ?_ | with_reducible refine wpAny_loadPart_at hC ?_ | (with_reducible refine wpAny_isSubtype_exc hC ?_;rw [hcB]) | wp_step)
 exact wpAny_raiseNew_none hh hE
section
variable {c:Wo}{φ:Fr}{nm:Nms}{e:Expr}{K:Kx}{E:Hp→Prop}{g:Sg}{lc:Loc}{p:Pos}{m:Cd MV}
theorem SOk.raiS {x:Str}{q pos:Pos}{j:Nat}(X:ExcOk c x 71)(hi:nm[j]?=some (x, .globalImplicit))(hp:Pl e)(he:EOk c nm e m):SOk c nm (.Raise (some (.Call (.Name x q) [e] [] p)) none pos) (Mine.raiS m):=fun φ K N lc g W h hm R=>by
 rw [arm_exec_Raise]
 refine wpAny_bind (wpAny_standAt ?_)
 have B:=h.ok
 have hs:EsOk c nm [e] (evs [m]):= .cons hp he .nil
 obtain ⟨h0,hm⟩:=hm
 refine raise_made (a:=71) (h.ok.off (W.hd▸h0)) (wpAny_bind (wpAny_bind ?_))
 refine wpAny_mono (sim_glob (p:=q) (N:=fun V g'=>V= .ref 71∧g'=g) (E:=K.E) (X:=[]) W.base hi X.dbg (.inl X.name) h ⟨rfl,rfl⟩ R) (fun F s n=>?_) fun _ _ q=>XE.wide q
 obtain ⟨g',rfl,_,_,rfl,rfl⟩:=n
 refine callW (Pr:=c.K.In) hs.toEsSh (keeps_K X.keep) (wpAny_mono (hs.run φ K lc (fun vs h=>match vs with | [v]=>Mine.asStr v fun _=>K.E h | _=>False) g' p W.toKOk h hm R) (fun Vs s q=>?_) fun _ _ q=>XE.wide q)
 obtain ⟨g₁,rfl,R₁,S,hl,vs,hvs,q⟩:=q
 refine ⟨W.In R₁,?_⟩
 cases vs with
 | nil=>exact q.elim
 | cons v vs=>
 cases vs with
 | cons _ _=>exact q.elim
 | nil=>
 obtain ⟨V,_,rfl,hv,rfl⟩:=hvs
 obtain ⟨u,t,rfl,q⟩:=VR.asStr hv q
 have h₁:=h.step S
 have B1:AOk ⟨φ.A,φ.l,0,false⟩ g₁:=⟨h₁.ok.frames,h₁.ok.frs,Nat.lt_of_le_of_lt (Nat.add_le_add_right (Nat.le_add_right _ _) _) h₁.ok.depth,Nat.lt_of_le_of_lt (Nat.add_le_add_right (Nat.le_add_right _ _) _) h₁.ok.units,h.ok.off (W.hd▸h0)⟩
 refine X.make φ.A φ.l g₁ u t _ _ B1 R₁ fun h' tk ex n=>?_
 obtain ⟨o,T,keep,hnew,hget,hcls,hdat⟩:=n
 refine wpAny_bind (wpAny_standAt (wpAny_pure ⟨ex,o,T,rfl,X.cls.keeps fun b o e=>keep b o (R₁.z b o (R₁.base b o e)),hget,hcls,hdat,?_⟩))
 have S2:Step [] [] g₁ (g₁.on h' tk):= .of_ext keep
 have R2:SR c (g₁.on h' tk):=R₁.of_ext keep
 exact XE.wide ⟨g₁.on h' tk,rfl,R2,(S.trans R R₁ S2).x,(h₁.step S2).ok.frs,⟨none, .inl rfl,ex,rfl,o,_,S.absent hnew,(R₁.absent hnew).rec fun a b=>⟨a,b⟩,hget,hcls,hdat, .none,rfl,by show 4 < 6;decide,rfl,rfl⟩,q⟩
end
end Mine
end
section
namespace Mine
open PySem PySem.W PySem.Calls PyProof.Rows PySem.SeqAt
structure TopF (φ:Fr):Prop where
 l:φ.l= [φ.env]
 L:φ.L=φ.env.locals
noncomputable def STk (c:Wo)(nm:Nms)(s:Stmt)(m:Cs):Prop:=∀(φ:Fr)(K:Kx)(N:Loc→Hp→Prop)(lc:Loc)(g:Sg),KS c φ K→TopF φ→Here c φ nm lc g→m K N lc g.H→Sm c (φ.x φ.X) (exec s φ.env) g (SN c φ nm K N) K.E
noncomputable def BTk (c:Wo)(nm:Nms)(b:List Stmt)(m:Cs):Prop:=∀(φ:Fr)(K:Kx)(N:Loc→Hp→Prop)(lc:Loc)(g:Sg),KS c φ K→TopF φ→Here c φ nm lc g→m K N lc g.H→Sm c (φ.x φ.X) (execs b φ.env) g (SN c φ nm K N) K.E
noncomputable def UOk (c:Wo)(nm:Nms)(b:List Stmt)(m:Cd Unit):Prop:=∀(φ:Fr)(K:Kx)(lc:Loc)(Q:Po Unit)(g:Sg),KOk c φ K→Here c φ nm lc g→m K lc Q g.H→Sm c (φ.x []) (execs b φ.env) g (fun f g'=>f= .next∧Q () g'.H) K.E
section
variable {c:Wo}{φ:Fr}{nm:Nms}{e e' r:Expr}{b b':List Stmt}{K:Kx}{E:Hp→Prop}{g g':Sg}{lc:Loc}{p q:Pos}{m mr:Cd MV}{u u':Cd Unit}{s:Stmt}{a d:Cs}
theorem STk.of (h:SOk c nm s a):STk c nm s a:=fun φ K N lc g W _=>h φ K N lc g W
theorem BTk.nil:BTk c nm [] skp:=fun φ K N lc g W _=>BOk.nil φ K N lc g W
theorem BTk.cons (h1:STk c nm s a)(h2:BTk c nm b d):BTk c nm (s::b) (sq a d):=fun φ K N lc g W T h hm=>by
 show Sm c _ (exec s φ.env >>= fun f=>match f with | .next=>execs b φ.env | f=>pure f) g _ _
 refine (h1 φ K (d K N) lc g W T h hm).bind fun f g' R S n=>?_
 cases f with
 | next=>obtain ⟨lc',F,q⟩:=n;exact h2 φ K N lc' g' W T (h.next S F) q
 | brk=>exact .pure n
 | cont=>exact n.elim
 | ret V=>exact .pure n
theorem UOk.ex (hc:NoComp e)(he:EOk c nm e m):UOk c nm [.Expr e p] (uE m):=fun φ K lc Q g W h hm=>by
 show Sm c _ (exec (.Expr e p) φ.env >>= fun f=>match f with | .next=>execs [] φ.env | f=>pure f) g _ _
 rw [exec_Expr φ.env e p (by unfold interactive;rw [h.fr.kind];rfl) (hc _ _)]
 refine Sm.bind (N:=fun f g=>f= .next∧Q () g.H) (.standAt ((he φ K lc _ g W h hm).bind fun V g' R S n R=>wpAny_dropValue (nd_same R ⟨rfl,n.rec fun _ _ q=>q⟩))) fun f g' R S n=>?_
 obtain ⟨rfl,q⟩:=n
 exact .pure ⟨rfl,q⟩
theorem UOk.if {ct:Cd Bool}(ht:TOk c nm e ct)(h1:UOk c nm b u)(h2:UOk c nm b' u'):UOk c nm [.If e b b' p] (uIf ct u u'):=fun φ K lc Q g W h hm=>by
 show Sm c _ ((standAt p >>= fun _=>isTrue e φ.env (eval e φ.env) >>= fun c=>if c then execs b φ.env else execs b' φ.env) >>= fun f=>match f with | .next=>execs [] φ.env | f=>pure f) g _ _
 refine Sm.bind (N:=fun f g=>f= .next∧Q () g.H) (.standAt ((ht φ K lc _ g W h hm).bind fun r g' R S n=>?_)) fun f g' R S n=>?_
 ·cases r with
  | true=>exact h1 φ K lc Q g' W (h.step S) n
  | false=>exact h2 φ K lc Q g' W (h.step S) n
 ·obtain ⟨rfl,q⟩:=n
  exact .pure ⟨rfl,q⟩
theorem Step.own {l:List Env}{X:List Addr}(hl:∀a,framesAt l a→a∈X)(S:Step l [] g g'):Step [] X g g':={S with
 keep:=fun a o e n hx=>(S.keep a o e n nofun).rec fun sl q=> .rfl' (by rw [q.1,q.2 fun w=>hx (hl a w)])}
theorem caught {x:Str}{pc ph pr:Pos}{j:Nat}{Ev:Value}{s':Shared}{N:Loc→Hp→Prop}{E':Value→Shared→Prop}(X:ExcOk c x 71)(hi:nm[j]?=some (x, .globalImplicit))(W:KS c φ K)(T:TopF φ)(h:Here c φ nm lc g)(hr:EOk c nm r mr)(R:SR c g)
  (q:XE c ⟨φ.A,φ.l,[],fun f=>f=some .none⟩ g (fun h=>mr ⟨K.cl,noE,true,K.ret,K.brk⟩ lc K.ret h) Ev s') :
  wpAny (model c.prog c.w) φ.A (handleBy Ev φ.env [.ExceptHandler (some (.Name x pc)) none [.Return (some r) pr] ph]) (fun f=>Nd c [] φ.X g (SN c φ nm K N f)) E' s':=by
 have q0:=q
 obtain ⟨g₁,rfl,R₁,S₁,F₁,⟨_,rfl,Ra⟩,_⟩:=q
 obtain ⟨ex,rfl,o,vs,r1,r2,r4,r5,r6,b0,r7,r8,hb,T0,rfl,t⟩:=Ra
 obtain ⟨k',hk,hkq⟩:=h.fr.names j x _ hi
 obtain rfl:k'= .globalImplicit:=hkq.elim id fun q=>nomatch q.1
 have up:∀a o,c.G.get? a=some o→g₁.at a=some o:=fun a o e=>R₁.z a o (R₁.base a o e)
 refine wpAny_handleBy_cons (codeAny_handlers_test (Name_function_global h.fr.kind hk (loadGlobal_global (h.fr.glob▸W.base.wd.g.keeps up) X.name ?_) X.dbg)) nofun
 obtain ⟨nm',q,N',bs,bm,hdct,sn,sub,ab,col,dd,k0,k1,k2,k3,k5,newId,hC,hbase⟩:=X.cls.keeps up
 refine wpAny_excMatches_sub_self (h:=g₁.s.heap) (g:=g₁.s.gens) (d:=g₁.s.drawn) (t:=g₁.s.toks) (os:=g₁.s.os) hC r4 r5 hbase ?_
 refine codeAny_handlers_suite ?_
 have q0:XE c ⟨φ.A.mark (some (.ref ex)),φ.l,[],fun f=>f=some .none⟩ g _ (.ref ex) g₁.s:=q0.mono fun _ _ _ x=>x.back (fun _ q=>q) rfl fun _ q=>q
 refine flights (fun f e=>⟨_,e⟩) R none q0 fun h' q4=>?_
 obtain ⟨g₄,e4,R₄,S₄,F₄,⟨_,rfl,Ra⟩,hq⟩:=q4
 obtain ⟨ex',e',o4,vs4,t1,t2,t4,t5,t6,b4,t7,t8,_⟩:=Ra
 cases e'
 rw [T.l] at S₄ F₄
 have own:∀a,framesAt [φ.env] a→a∈φ.X:=fun a ⟨e,he,hf⟩=>by
  rw [List.mem_singleton.mp he,W.L,T.L] at hf
  cases hf;exact .head _
 have hex:=h.new t1
 have S₅:Step [] φ.X g (g₄.fz ex o4):=(S₄.own own).frozen t2 t1
 have R₅:SR c (g₄.fz ex o4):=R₄.frozen t4 t2
 have F₅:FR c φ.env nm lc (g₄.fz ex o4):=h.fr.keep S₅.up (fun a ha o e=>(S₄.kp (h.fr.priv a ha).p nofun e).imp fun sl q=>q.1) fun a ha=>(h.fr.priv a ha).o.elim fun o e=>S₅.priv (h.fr.priv a ha).p e.1
 have B₅:AOk ⟨φ.A.mark (some (.ref ex)),φ.l,φ.n,true⟩ (g₄.fz ex o4):=⟨h.ok.frames,fun e he=>(F₄ e (T.l▸he)).rec fun L' oL a1 a2 a3 a4 a5=>⟨L',oL,a1,a2,⟨(zput_ne fun q=>by rw [q,t4] at a4;cases a4;exact a5 _ t6).trans a3.z,a3.r⟩,a4,a5⟩,h.ok.depth,h.ok.units,⟨ex,o4,vs4,rfl,zput_at,t6,t7⟩⟩
 show wpAny _ _ (exec (.Return (some r) pr) φ.env >>= fun f=>match f with | .next=>execs [] φ.env | f=>pure f) _ _ _
 rw [exec_Return_some,← e4]
 refine wpAny_bind (wpAny_bind (wpAny_standAt (wpAny_bind (wpAny_mono (hr ⟨⟨φ.A.mark (some (.ref ex)),φ.l,φ.n,true⟩,φ.env,φ.L⟩ ⟨K.cl,noE,true,K.ret,K.brk⟩ lc K.ret (g₄.fz ex o4) ⟨W.base,W.call,rfl⟩ ⟨F₅,B₅⟩ hq R₅) (fun V s₆ q=>?_) fun _ _ q=>q.rec fun _ _ _ _ x=>x.E.elim))))
 obtain ⟨g₆,rfl,R₆,S₆,n⟩:=q
 exact wpAny_pure (wpAny_pure ⟨g₆,rfl,R₆,S₅.trans R R₅ (S₆.weaken nofun),n⟩)
theorem STk.try {x:Str}{pc ph pr pos:Pos}{j:Nat}(X:ExcOk c x 71)(hi:nm[j]?=some (x, .globalImplicit))(hu:UOk c nm b u)(hr:EOk c nm r mr) :
  STk c nm (.Try b [.ExceptHandler (some (.Name x pc)) none [.Return (some r) pr] ph] [] [] pos) (tryS u mr):=fun φ K N lc g W T h hm R=>by
 refine wpAny_Try_except (wpAny_mono (hu φ ⟨K.cl,fun h=>mr ⟨K.cl,noE,true,K.ret,K.brk⟩ lc K.ret h,K.hd,K.ret,K.brk⟩ lc _ g ⟨W.base,W.call,W.hd⟩ h hm R) (fun f s₁ q=>?_) fun Ev s₁ q=>?_)
 ·obtain ⟨g₁,rfl,R₁,S,rfl,q⟩:=q
  exact wpAny_execs_nil ⟨g₁,rfl,R₁,S.weaken nofun,lc,(h.step S).fr,q⟩
 ·refine wpAny_mono (note_x (E':=fun _ _=>False) h.ok.frames W R q) (fun _ s₂ q=>flights (fun f e=>⟨_,e⟩) R none q fun h₃ q=>caught X hi W T h hr R q) fun _ _ q=>q.elim
end
end Mine
end
section
namespace Mine
open PySem PySem.W PySem.Calls PyProof.Rows PySem.SeqAt
noncomputable abbrev ifTurn (env:Env)(c:Expr)(r:Bool):Sem (ForInStep Bool):=if r=true then do let ok ← isTrue c env (eval c env);pure (ForInStep.yield ok) else pure (ForInStep.yield r)
noncomputable def turnT (t:Expr)(ifs:List Expr)(inner:Sem Unit)(env:Env)(v:Value):Sem Unit:=
 assign t env v >>= fun _=>forIn ifs true (ifTurn env) >>= fun ok=>if ok=true then inner else pure ()
noncomputable def loopT (e:Expr)(d:Nat)(it acc:Value)(t iter:Expr)(ifs:List Expr)(inner:Sem Unit)(env:Env):Sem Fin:=do
 standAt iter.pos
 match ← pyNext it with
 | none=>pure (.done .next)
 | some v=>
  letOwnedTupleGo t it v
  turnT t ifs inner env v
  again (.compLoop e d it acc env)
noncomputable def lastL (elt:Expr)(acc:Value)(env:Env):Sem Unit:=eval elt env >>= fun x=>call (.builtin "list.append") [acc,x] >>= fun _=>pure ()
noncomputable def moreL (e:Expr)(it:Expr)(d:Nat)(acc:Value)(env:Env):Sem Unit:=
 eval it env >>= fun x=>standAt it.pos >>= fun _=>foldedSetIterable it env x >>= fun x=>holding [x] (pyIter x) >>= fun i=>runOwn (.compStart e (d+1) i acc env) env >>= fun _=>pure ()
noncomputable def lastD (kx vx:Expr)(D:Addr)(env:Env):Sem Unit:=
 eval kx env >>= fun kv=>holding [kv] (eval vx env) >>= fun vv=>standAt {kx.pos with endLine:=vx.pos.endLine,endCol:=vx.pos.endCol} >>= fun _=>holding [kv,vv] (dictSet D kv vv)
theorem turn_tree {e t iter:Expr}{d:Nat}{it acc:Value}{ifs:List Expr}{env:Env}{f:Bool→Sem Fin}{inner:Sem Unit}(h:∀ok,f ok= ((if ok=true then inner else pure ()) >>= fun _=>again (.compLoop e d it acc env))) :
  (standAt iter.pos >>= fun _=>pyNext it >>= fun r=>match r with
   | none=>pure (.done .next)
   | some v=>letOwnedTupleGo t it v >>= fun _=>assign t env v >>= fun _=>(forIn ifs true (ifTurn env):Sem Bool) >>= f) =loopT e d it acc t iter ifs inner env:=by
 unfold loopT turnT
 refine bind_congr fun _=>bind_congr fun r=>?_
 cases r with
 | none=>rfl
 | some v=>
  refine bind_congr fun _=>?_
  rw [bind_assoc]
  refine bind_congr fun _=>?_
  rw [bind_assoc]
  exact bind_congr h
theorem compTurn_last {elt:Expr}{gens:List Comprehension}{csc:Scope}{pos:Pos}{d:Nat}{it acc:Value}{env:Env}{t iter:Expr}{ifs:List Expr}(hg:gens[d]?=some ⟨t,iter,ifs,0⟩)(h2:gens[d+1]?=none) :
  compTurn (.ListComp elt gens csc pos) d it acc env=loopT (.ListComp elt gens csc pos) d it acc t iter ifs (lastL elt acc env) env:=by
 refine Eq.trans ?_ (turn_tree (f:=fun ok=>(if ok=true then lastL elt acc env else pure ()) >>= fun _=>again (.compLoop (.ListComp elt gens csc pos) d it acc env)) fun _=>rfl)
 unfold compTurn
 simp only [hg,h2]
 unfold lastL
 simp only [bind_assoc,bne_self_eq_false,Bool.false_eq_true,if_false]
 refine bind_congr fun _=>bind_congr fun r=>?_
 cases r with
 | none=>rfl
 | some v=>
  refine bind_congr fun _=>bind_congr fun _=>bind_congr fun ok=>?_
  cases ok
  ·simp
  ·simp
theorem compTurn_more {elt:Expr}{gens:List Comprehension}{csc:Scope}{pos:Pos}{d:Nat}{it acc:Value}{env:Env}{t iter:Expr}{ifs:List Expr}{t' it':Expr}{ifs':List Expr}(hg:gens[d]?=some ⟨t,iter,ifs,0⟩)(h2:gens[d+1]?=some ⟨t',it',ifs',0⟩) :
  compTurn (.ListComp elt gens csc pos) d it acc env=loopT (.ListComp elt gens csc pos) d it acc t iter ifs (moreL (.ListComp elt gens csc pos) it' d acc env) env:=by
 refine Eq.trans ?_ (turn_tree (f:=fun ok=>(if ok=true then moreL (.ListComp elt gens csc pos) it' d acc env else pure ()) >>= fun _=>again (.compLoop (.ListComp elt gens csc pos) d it acc env)) fun _=>rfl)
 unfold compTurn
 simp only [hg,h2]
 unfold moreL
 simp only [bind_assoc,bne_self_eq_false,Bool.false_eq_true,if_false]
 refine bind_congr fun _=>bind_congr fun r=>?_
 cases r with
 | none=>rfl
 | some v=>
  refine bind_congr fun _=>bind_congr fun _=>bind_congr fun ok=>?_
  cases ok
  ·simp
  ·simp
theorem compTurn_dict1 {kx vx target iter:Expr}{ifs:List Expr}{scope:Scope}{pos:Pos}{it:Value}{D:Addr}{env:Env} :
  compTurn (.DictComp kx vx [⟨target,iter,ifs,0⟩] scope pos) 0 it (.ref D) env=loopT (.DictComp kx vx [⟨target,iter,ifs,0⟩] scope pos) 0 it (.ref D) target iter ifs (lastD kx vx D env) env:=by
 rw [compTurn_dict]
 unfold loopT turnT lastD
 simp only [bind_assoc]
 refine bind_congr fun _=>bind_congr fun r=>?_
 cases r with
 | none=>rfl
 | some v=>
  refine bind_congr fun _=>bind_congr fun _=>bind_congr fun ok=>?_
  cases ok
  ·simp
  ·simp
end Mine
end
section
namespace Mine
open PySem PySem.W PySem.Calls PyProof.Rows PySem.SeqAt
noncomputable def clOf (env:Env):List (Str × NameKind)→List (Str × Addr)→List (Str × Addr)
 | [],acc=>acc
 | (n,k) ::r,acc=>clOf env r (if k == .free then (n,(env.cells.lookup n).getD 0) ::acc else acc)
theorem closure_go {env:Env}:∀(ns:List (Str × NameKind))(acc:List (Str × Addr)),(∀x∈ns,x.2= .free→∃c,env.cells.lookup x.1=some c)→
  (forIn ns acc (fun x cs=>do if x.2 == .free then (do let a ← cellOf env x.1;pure (ForInStep.yield ((x.1,a) ::cs))) else pure (ForInStep.yield cs)):Sem _) =pure (clOf env ns acc)
 | [],acc,_=>rfl
 | (n,k) ::r,acc,h=>by
  have ih:=fun acc=>closure_go r acc fun x hx=>h x (.tail _ hx)
  rw [List.forIn_cons]
  by_cases hk:(k == NameKind.free) =true
  ·have hk':k= .free:=eq_of_beq hk
   obtain ⟨c,hc⟩:=h (n,k) (.head _) hk'
   have hc:env.cells.lookup n=some c:=hc
   have e:cellOf env n=pure c:=by unfold cellOf;rw [hc]
   simp only [hk,if_true,e,pure_bind]
   rw [ih]
   simp [clOf,hk,hc]
  ·simp only [hk,Bool.false_eq_true,if_false,pure_bind]
   rw [ih]
   simp [clOf,hk]
theorem closure_ok {scope:Scope}{env:Env}(h:∀x∈scope.names,x.2= .free→∃c,env.cells.lookup x.1=some c):closureFor scope env=pure (clOf env scope.names []):=by
 unfold closureFor
 have:=closure_go scope.names [] h
 simp only [bind_pure] at *
 exact this
theorem clOf_mem {env:Env}:∀(ns:List (Str × NameKind))(acc:List (Str × Addr))(p:Str × Addr),p∈clOf env ns acc→p∈acc∨∃k,(p.1,k)∈ns∧k= .free∧p.2= (env.cells.lookup p.1).getD 0
 | [],acc,p,h=> .inl h
 | (n,k) ::r,acc,p,h=>by
  rcases clOf_mem r _ p h with h | ⟨k',h1,h2,h3⟩
  ·by_cases hk:(k == NameKind.free) =true
   ·rw [if_pos hk] at h
    rcases List.mem_cons.mp h with rfl | h
    ·exact .inr ⟨k, .head _,eq_of_beq hk,rfl⟩
    ·exact .inl h
   ·rw [if_neg hk] at h;exact .inl h
  ·exact .inr ⟨k', .tail _ h1,h2,h3⟩
theorem clOf_lookup {env:Env}:∀(ns:List (Str × NameKind))(acc:List (Str × Addr))(x:Str),(∀k,(x,k)∈ns→k= .free)→(∃k,(x,k)∈ns)→(clOf env ns acc).lookup x=some ((env.cells.lookup x).getD 0)
 | [],_,_,_,⟨k,h⟩=>nomatch h
 | (n,k) ::r,acc,x,h1,h2=>by
  unfold clOf
  by_cases hr:∃k,(x,k)∈r
  ·exact clOf_lookup r _ x (fun k hk=>h1 k (.tail _ hk)) hr
  ·
   have hx:x=n∧k= .free:=by
    obtain ⟨k',hk'⟩:=h2
    rcases List.mem_cons.mp hk' with e | e
    ·cases e;exact ⟨rfl,h1 k (.head _)⟩
    ·exact absurd ⟨k',e⟩ hr
   obtain ⟨rfl,rfl⟩:=hx
   have keep:∀(ns:List (Str × NameKind)) (acc:List (Str × Addr)),(¬ ∃k,(x,k)∈ns)→(clOf env ns acc).lookup x=acc.lookup x:=by
    intro ns
    induction ns with
    | nil=>intro acc _;rfl
    | cons p ns ih=>
     intro acc hn
     obtain ⟨m,q⟩:=p
     unfold clOf
     rw [ih _ fun ⟨k,hk⟩=>hn ⟨k, .tail _ hk⟩]
     split
     ·have:(x == m) =false:=beq_eq_false_iff_ne.mpr fun e=>hn ⟨q,by rw [e];exact .head _⟩
      rw [List.lookup_cons,this]
     ·rfl
   rw [keep r _ hr,if_pos (by rfl),List.lookup_cons,beq_self_eq_true]
theorem lookup_relabel {scope:Scope}{env:Env}:∀ {names:List (Str × NameKind)}{x:Str}{k:NameKind},names.lookup x=some k→
  (names.map fun (n,k)=>if (k == NameKind.free && env.scope.kind == .function && env.kindOf n == some .cell) then (n,NameKind.cell) else (n,k)).lookup x =
   some (if (k == NameKind.free && env.scope.kind == .function && env.kindOf x == some .cell) then NameKind.cell else k)
 | [],_,_,h=>by simp at h
 | (n,k) ::r,x,k',h=>by
  have ih:=@lookup_relabel scope env r x k'
  show List.lookup x ((if (k == NameKind.free && env.scope.kind == .function && env.kindOf n == some .cell) =true then (n,NameKind.cell) else (n,k)) ::_) =_
  cases hx:x == n with
  | true=>
   obtain rfl:=eq_of_beq hx
   simp only [List.lookup_cons,hx] at h
   cases h
   split <;> simp [List.lookup_cons]
  | false=>
   simp only [List.lookup_cons,hx] at h
   split <;> (simp only [List.lookup_cons,hx];exact ih h)
theorem relabel_back {env:Env}:∀ {names:List (Str × NameKind)}{x:Str}{k':NameKind},
  (names.map fun (n,k)=>if (k == NameKind.free && env.scope.kind == .function && env.kindOf n == some .cell) then (n,NameKind.cell) else (n,k)).lookup x=some k'→∃k,names.lookup x=some k∧(k'=k∨(k= .free∧k'= .cell))
 | [],_,_,h=>by simp at h
 | (n,k) ::r,x,k',h=>by
  have ih:=@relabel_back env r x k'
  have h:List.lookup x ((if (k == NameKind.free && env.scope.kind == .function && env.kindOf n == some .cell) =true then (n,NameKind.cell) else (n,k)) ::(r.map fun (n,k)=>if (k == NameKind.free && env.scope.kind == .function && env.kindOf n == some .cell) then (n,NameKind.cell) else (n,k))) =some k':=h
  cases hx:x == n with
  | true=>
   obtain rfl:=eq_of_beq hx
   refine ⟨k,by simp [List.lookup_cons],?_⟩
   split at h
   ·rename_i q
    simp only [List.lookup_cons,beq_self_eq_true] at h
    cases h
    simp only [Bool.and_eq_true] at q
    exact .inr ⟨eq_of_beq q.1.1,rfl⟩
   ·simp only [List.lookup_cons,beq_self_eq_true] at h
    cases h;exact .inl rfl
  | false=>
   have h':(r.map fun (n,k)=>if (k == NameKind.free && env.scope.kind == .function && env.kindOf n == some .cell) then (n,NameKind.cell) else (n,k)).lookup x=some k':=by
    split at h <;> (simp only [List.lookup_cons,hx] at h;exact h)
   obtain ⟨k₁,h1,h2⟩:=ih h'
   exact ⟨k₁,by simp only [List.lookup_cons,hx];exact h1,h2⟩
theorem lookup_mem_of {α:Type}:∀ {l:List (Str × α)}{x:Str}{k:α},l.lookup x=some k→(x,k)∈l
 | [],_,_,h=>by cases h
 | (n,k) ::r,x,k',h=>by
  rw [List.lookup_cons] at h
  split at h
  ·rename_i q;cases h;rw [eq_of_beq q];exact .head _
  ·exact .tail _ (lookup_mem_of h)
theorem nodup_kind {names:List (Str × NameKind)}(hn:(names.map (·.1)).Nodup){x:Str}{k k':NameKind}(h:(x,k)∈names)(h':(x,k')∈names):k=k':=by
 induction names with
 | nil=>cases h
 | cons p r ih=>
  rw [List.map_cons,List.nodup_cons] at hn
  rcases List.mem_cons.mp h with e | e
  ·rcases List.mem_cons.mp h' with e' | e'
   ·rw [← e] at e';cases e';rfl
   ·exact absurd (List.mem_map.mpr ⟨_,e',rfl⟩) (by rw [← e] at hn;exact hn.1)
  ·rcases List.mem_cons.mp h' with e' | e'
   ·exact absurd (List.mem_map.mpr ⟨_,e,rfl⟩) (by rw [← e'] at hn;exact hn.1)
   ·exact ih hn.2 e e'
noncomputable def hsOk (nm:Nms):Nms→List (Option Nat)→Bool
 | [],[]=>true
 | (x,k) ::r,o::hs=>(match k,o with
  | .free,some j=>nm[j]? == some (x, .cell) || nm[j]? == some (x, .free)
  | .local,none=>true
  | .globalImplicit,none=>true
  | _,_=>false) && hsOk nm r hs
 | _,_=>false
structure HsAt (nm:Nms)(x:Str)(k:NameKind)(o:Option Nat):Prop where
 nocell:k≠ .cell
 none:k≠ .free→o=none
 free:k= .free→∃j k',o=some j∧nm[j]?=some (x,k')∧(k'= .cell∨k'= .free)
theorem hs_at {nm:Nms}:∀ {ns:Nms}{hs:List (Option Nat)},hsOk nm ns hs=true→∀ {i:Nat}{x:Str}{k:NameKind},ns[i]?=some (x,k)→∃o,hs[i]?=some o∧HsAt nm x k o:=by
 intro ns
 induction ns with
 | nil=>intro _ _ _ _ _ e;cases e
 | cons p r ih=>
  intro hs h i x k e
  obtain ⟨y,k'⟩:=p
  cases hs with
  | nil=>cases h
  | cons o hs=>
   obtain ⟨h1,h2⟩:=Bool.and_eq_true_iff.mp h
   cases i with
   | succ i=>exact ih h2 e
   | zero=>
    cases e
    refine ⟨o,rfl,?_⟩
    cases k with
    | free=>cases o with
     | none=>cases h1
     | some j=>exact ⟨nofun,fun q=>absurd rfl q,fun _=>(Bool.or_eq_true_iff.mp h1).elim (fun q=>⟨j,_,rfl,eq_of_beq q, .inl rfl⟩) fun q=>⟨j,_,rfl,eq_of_beq q, .inr rfl⟩⟩
    | «local» =>cases o with
     | none=>exact ⟨nofun,fun _=>rfl,nofun⟩
     | some _=>cases h1
    | globalImplicit=>cases o with
     | none=>exact ⟨nofun,fun _=>rfl,nofun⟩
     | some _=>cases h1
    | _=>cases o <;> cases h1
theorem hide_at {hs:List (Option Nat)}{lc:Loc}{v:MV}:∀ {i:Nat},lat (hide hs lc) i=some v→∃j,hs[i]?=some (some j)∧lat lc j=some v:=by
 induction hs with
 | nil=>intro i h;cases h
 | cons o hs ih=>
  intro i h
  cases i with
  | succ i=>exact ih h
  | zero=>cases o with
   | none=>cases h
   | some j=>exact ⟨j,rfl,h⟩
structure CompOk (csc:Scope)(nm:Nms)(hs:List (Option Nat)):Prop where
 kind:csc.kind= .function
 hs:hsOk nm csc.names hs=true
 nodup:(csc.names.map (·.1)).Nodup
theorem look_at {names:Nms}(h:(names.map (·.1)).Nodup){i:Nat}{x:Str}{k:NameKind}(e:names[i]?=some (x,k)):names.lookup x=some k:=by
 induction names generalizing i with
 | nil=>cases e
 | cons p r ih=>
  have h':=List.nodup_cons.mp h
  cases i with
  | zero=>cases e;rw [List.lookup_cons,beq_self_eq_true]
  | succ i=>
   rw [List.lookup_cons,beq_eq_false_iff_ne.mpr fun (q:x=p.1)=>h'.1 (by show p.1∈_;rw [← q];exact List.mem_map.mpr ⟨_,List.mem_of_getElem? e,rfl⟩)]
   exact ih h'.2 e
section
variable {c:Wo}{nm:Nms}{g g':Sg}{lc:Loc}{env:Env}{csc:Scope}{hs:List (Option Nat)}{C:Addr}
theorem CompOk.at_ (O:CompOk csc nm hs){x:Str}{k:NameKind}(h:(x,k)∈csc.names):∃(i:Nat)(o:Option Nat),csc.names[i]?=some (x,k)∧hs[i]?=some o∧HsAt nm x k o:=by
 obtain ⟨i,hi⟩:=List.mem_iff_getElem?.mp h
 exact (hs_at O.hs hi).elim fun o q=>⟨i,o,hi,q⟩
theorem CompOk.loc (O:CompOk csc nm hs):∀x∈csc.names,x.2= .local→csc.names.lookup x.1=some .local:=fun x hx e=>by
 obtain ⟨i,hi⟩:=List.mem_iff_getElem?.mp hx
 exact look_at O.nodup (k:= .local) (hi.trans (by rw [← e]))
theorem FR.free (F:FR c env nm lc g)(O:CompOk csc nm hs){x:Str}(hx:(x,NameKind.free)∈csc.names) :
  ∃a v0,env.cells.lookup x=some a∧g.s.heap.IsCell a v0∧∀(i:Nat) k v,nm[i]?=some (x,k)→lat lc i=some v→∃V,v0=some V∧VR c g.m v V:=by
 obtain ⟨i,o,_,_,H⟩:=O.at_ hx
 obtain ⟨j,k,_,e,q⟩:=H.free rfl
 obtain ⟨k',h1,h2⟩:=F.names j x k e
 exact F.cell x (h2.elim (fun e=>q.elim (fun q=> .inl (by rw [h1,e,q])) fun q=> .inr (by rw [h1,e,q])) fun e=> .inl (by rw [h1,e.2]))
theorem FR.clo (F:FR c env nm lc g)(O:CompOk csc nm hs){p:Str × Addr}(h:p∈clOf env csc.names []):env.cells.lookup p.1=some p.2∧(p.1,NameKind.free)∈csc.names:=by
 rcases clOf_mem _ _ _ h with q | ⟨k',h1,rfl,h3⟩
 ·cases q
 ·obtain ⟨a,_,h4,_⟩:=F.free O h1
  exact ⟨by rw [h3,h4];rfl,h1⟩
theorem FR.comp_cells (F:FR c env nm lc g)(O:CompOk csc nm hs){a:Addr}(ha:a∈(clOf env csc.names []).map (·.2)):a∈privOf env:=by
 obtain ⟨p,hp,rfl⟩:=List.mem_map.mp ha
 exact List.mem_cons_of_mem _ (List.mem_map.mpr ⟨_,mem_of_lookup (F.clo O hp).1,rfl⟩)
theorem FR.comp (F:FR c env nm lc g)(O:CompOk csc nm hs){h:Heap}{tk:Nat}(hC:h.Ns C fun _=>none)(hn:g.at C=none)(R:SR c g)(k:∀b o,g.at b=some o→h.get? b=some o) :
  FR c (compEnvC csc (clOf env csc.names []) C env) csc.names (hide hs lc) (g.on h tk) where
 kind:=O.kind
 glob:=F.glob
 blt:=F.blt
 nd:=O.nodup
 names:=fun i x k hk=>⟨_,lookup_relabel (scope:=csc) (env:=env) (look_at O.nodup hk),by
  split
  ·rename_i q
   exact .inr ⟨eq_of_beq (Bool.and_eq_true_iff.mp (Bool.and_eq_true_iff.mp q).1).1,rfl⟩
  ·exact .inl rfl⟩
 ns:=⟨_,hC,fun i x k v hk hv hl=>by
  obtain ⟨k',h1,h2⟩:=relabel_back (env:=env) hl
  obtain rfl:NameKind.local=k':=h2.elim id fun q=>nomatch q.2
  cases (look_at O.nodup hk).symm.trans h1
  obtain ⟨o,e,H⟩:=hs_at O.hs hk
  obtain ⟨j,e',_⟩:=hide_at hv
  cases (H.none nofun)▸e.symm.trans e'⟩
 cell:=fun x hk=>by
  have hm:(x,NameKind.free)∈csc.names:=by
   obtain ⟨k',h1,h2⟩:∃k',csc.names.lookup x=some k'∧(k'= .cell∨k'= .free):=by
    rcases hk with hk | hk
    ·exact (relabel_back (env:=env) hk).imp fun k' q=>⟨q.1,q.2.elim (fun e=> .inl e.symm) fun e=> .inr e.1⟩
    ·exact (relabel_back (env:=env) hk).imp fun k' q=>⟨q.1,q.2.elim (fun e=> .inr e.symm) fun e=>nomatch e.2⟩
   have hm:=lookup_mem_of h1
   obtain ⟨i,o,_,_,H⟩:=O.at_ hm
   exact h2.elim (fun q=>absurd q H.nocell) fun q=>q▸hm
  obtain ⟨a,v0,h1,⟨o,h2,h3⟩,h4⟩:=F.free O hm
  refine ⟨a,v0,(clOf_lookup (env:=env) csc.names [] x (fun k hk=>nodup_kind O.nodup hk hm) ⟨_,hm⟩).trans (by rw [h1];rfl),⟨o,k _ _ h2,h3⟩,fun i k' v hi hv=>?_⟩
  obtain ⟨j,e,hj⟩:=hide_at hv
  obtain ⟨o',e',H⟩:=hs_at O.hs hi
  cases e.symm.trans e'
  by_cases q:k'= .free
  ·obtain ⟨j',k'',e2,e3,_⟩:=H.free q
   cases e2;exact h4 j _ v e3 hj
  ·cases H.none q
 priv:=fun a ha=>by
  rcases List.mem_cons.mp ha with rfl | ha
  ·exact ⟨(R.absent hn).rec fun a b=>⟨a,b⟩,hC.imp fun o q=>q.elim fun _ q=>q.elim fun _ q=>⟨q.1,fun vs e=>nomatch q.2.1.symm.trans e⟩⟩
  ·have P:=F.priv a (F.comp_cells O ha)
   exact ⟨P.p.rec fun a b=>⟨a,b⟩,P.o.imp fun o q=>⟨k _ _ q.1,q.2⟩⟩
 apart:=⟨fun ha=>(F.priv C (F.comp_cells O ha)).o.elim fun o e=>(nomatch hn.symm.trans e.1),fun x y a h1 h2=>F.apart.2 x y a (F.clo O (lookup_mem_of h1)).1 (F.clo O (lookup_mem_of h2)).1⟩
end
end Mine
end
section
namespace Mine
open PySem PySem.W PySem.Calls PyProof.Rows PySem.SeqAt
structure Acc {τ:Type}(c:Wo)(D:Addr)(mo:List τ→MO)(ys:List τ)(g:Sg):Prop where
 at_:∃o,g.at D=some o∧OR c g.m (mo ys) o
 priv:Priv g D
structure TN {τ:Type}(c:Wo)(φ:Fr)(nm:Nms)(D:Addr)(mo:List τ→MO)(lc:Loc)(ys:List τ)(b:Nat)(Q:Po (List τ))(g:Sg):Prop where
 fr:FR c φ.env nm lc g
 q:∃zs,zs.length≤b∧Acc c D mo (ys ++ zs) g∧Q zs g.H
noncomputable def InOk {τ:Type}(c:Wo)(φ:Fr)(nm:Nms)(D:Addr)(mo:List τ→MO)(b:Nat)(t:Sem Unit)(m:Cd (List τ)):Prop:=
 ∀(K:Kx) (lc:Loc) (ys:List τ) (Q:Po (List τ)) (g:Sg),KOk c φ K→Here c φ nm lc g→Acc c D mo ys g→ys.length+b≤sizeLine→m K.quiet lc Q g.H→Sm c (φ.x [D,φ.env.locals]) t g (fun _=>TN c φ nm D mo lc ys b Q) noE
noncomputable def IfsOk (c:Wo)(nm:Nms)(es:List Expr)(m:Cd Bool):Prop:=∀(φ:Fr)(K:Kx)(lc:Loc)(Q:Po Bool)(g:Sg),KOk c φ K→Here c φ nm lc g→m K lc Q g.H→Sm c (φ.x []) (forIn es true (ifTurn φ.env)) g (BN Q) K.E
noncomputable def IBk (c:Wo)(nm:Nms)(target e:Expr)(m:Cd (List MV))(B:Nat):Prop:=∀(φ:Fr)(K:Kx)(lc:Loc)(Q:Po (List MV))(g:Sg),KOk c φ K→Here c φ nm lc g→m K lc Q g.H→
 Sm c (φ.x []) (eval e φ.env) g (fun x g₁=>Sm c (φ.x []) (pyIter x) g₁ (ItN c φ.A target g fun xs h=>xs.length≤B∧Q xs h) K.E) K.E
noncomputable def NoCell (nm:Nms):Prop:=∀(i:Nat) x,nm[i]?≠some (x, .cell)
section
variable {τ:Type}{c:Wo}{φ:Fr}{nm:Nms}{target e it:Expr}{t:Tg}{ifs:List Expr}{cd:Cd Bool}{inner:Sem Unit}{m:Cd (List τ)}{K:Kx}{g g' g₀:Sg}{lc lc₀:Loc}{D:Addr}{mo:List τ→MO}{b B:Nat}{ys:List τ}{Q:Po (List τ)}
theorem IBk.of {m:Cd (List MV)}(h:IOk c nm target e m):IBk c nm target e m sizeMost:=fun φ K lc Q g W hh hm=>
 (h φ K lc Q g W hh hm).mono fun x g₁ _ _ n=>n.mono fun it g₂ _ _ n=>n.rec fun xs l q r=>⟨xs,l,⟨l,q⟩,r⟩
theorem IBk.lim {m:Cd (List MV)}(h:IOk c nm target e m):IBk c nm target e (lim m) 4000:=fun φ K lc Q g W hh hm=>h φ K lc _ g W hh hm
theorem IfsOk.nil:IfsOk c nm [] yes:=fun φ K lc Q g W h hm=> .pure hm
theorem ifs_dead {A:Around}{Mo:Model}{env:Env}{Q:Bool→Shared→Prop}{E:Value→Shared→Prop}{s:Shared}(h:Q false s)(es:List Expr):wpAny Mo A (forIn es false (ifTurn env)) Q E s:=by
 induction es with
 | nil=>exact wpAny_pure h
 | cons e es ih=>rw [List.forIn_cons];exact wpAny_bind (wpAny_pure ih)
theorem IfsOk.cons {ct:Cd Bool}(ht:TOk c nm e ct)(hs:IfsOk c nm ifs cd):IfsOk c nm (e::ifs) (tAnd ct cd):=fun φ K lc Q g W h hm=>by
 have e1:forIn (e::ifs) true (ifTurn φ.env) = (isTrue e φ.env (eval e φ.env) >>= fun ok=>forIn ifs ok (ifTurn φ.env)):=by
  rw [List.forIn_cons];simp [ifTurn]
 rw [e1]
 refine (ht φ K lc _ g W h hm).bind fun r g' R S n=>?_
 cases r with
 | true=>exact hs φ K lc Q g' W (h.step S) n
 | false=>exact fun R=>ifs_dead (nd_same R n) ifs
theorem Acc.step {X:List Addr}(a:Acc c D mo ys g)(S:Step [] X g g')(hx:D∉X):Acc c D mo ys g':=
 a.at_.elim fun o q=>⟨⟨o,(S.kp a.priv hx q.1).eq,q.2.up S.up⟩,S.priv a.priv q.1⟩
theorem OR.plain {o:Obj}{q:MO}{m:Mp}(h:OR c m q o)(vs:Array Value):o.data≠ .fields vs:=by
 cases q with
 | list xs=>obtain ⟨us,n,rfl,r⟩:=h;nofun
 | dict es=>obtain ⟨kvs,⟨es,ep,_,h1,_⟩,r⟩:=h;exact fun q=>nomatch q.symm.trans h1
theorem AOk.turn (B:AOk φ.toFm g)(S:Step [] [D,φ.env.locals] g g')(F:FR c φ.env nm lc g')(a:Acc c D mo ys g'):AOk φ.toFm g':=
 B.step S fun b hb o ho vs=>by
  rcases List.mem_cons.mp hb with rfl | hb
  ·obtain ⟨o',h1,h2⟩:=a.at_
   cases ho.symm.trans h1;exact h2.plain vs
  ·obtain ⟨o',h1,h2⟩:=(F.priv φ.env.locals (.head _)).o
   cases ((List.mem_singleton.mp hb▸ho:g'.at φ.env.locals=some o)).symm.trans h1;exact h2 vs
theorem FR.lower {env:Env}{lc':Loc}(F:FR c env nm lc g)(h:∀i v,lat lc' i=some v→lat lc i=some v):FR c env nm lc' g:={F with
 ns:=F.ns.imp fun m q=>⟨q.1,fun i x k v hi hl=>q.2 i x k v hi (h i v hl)⟩
 cell:=fun x hk=>let ⟨a,v0,h1,h2,h3⟩:=F.cell x hk;⟨a,v0,h1,h2,fun i k v hi hl=>h3 i k v hi (h i v hl)⟩}
noncomputable def Up (l l':Loc):Prop:=∀i v,lat l i=some v→lat l' i=some v
theorem lat_ne {v:MV}{l:Loc}:∀ {i j:Nat},j≠i→lat (lput l i v) j=lat l j:=by
 induction l with
 | nil=>intro i j _;rfl
 | cons a l ih=>
  intro i j h
  cases i with
  | zero=>cases j with
   | zero=>exact absurd rfl h
   | succ j=>rfl
  | succ i=>cases j with
   | zero=>rfl
   | succ j=>exact ih fun e=>h (congrArg _ e)
theorem unbs_of {P:Prop}{l:Loc}{is:List Nat}(h:unbs l is P):(∀i∈is,lat l i=none)∧P:=by
 induction is with
 | nil=>exact ⟨nofun,h⟩
 | cons i is ih=>
  unfold unbs at h
  cases e:lat l i with
  | some _=>rw [e] at h;exact h.elim
  | none=>rw [e] at h;exact ⟨fun j hj=>(List.mem_cons.mp hj).elim (fun q=>q▸e) ((ih h).1 j),(ih h).2⟩
theorem lputs_up {P:Loc→Prop}{l:Loc}{is:List Nat}:∀ {l':Loc}{vs:List MV},(∀i∈is,lat l i=none)→Up l l'→lputs l' is vs P→lputs l' is vs fun l''=>Up l l''∧P l'':=by
 induction is with
 | nil=>intro l' vs _ u h;cases vs with
  | nil=>exact ⟨u,h⟩
  | cons _ _=>exact h.elim
 | cons i is ih=>intro l' vs n u h;cases vs with
  | nil=>exact h.elim
  | cons v vs=>exact ih (fun j hj=>n j (.tail _ hj)) (fun j w e=>(lat_ne fun q=>by rw [q,n i (.head _)] at e;cases e).trans (u j w e)) h
theorem put_up {P:Loc→Prop}{l:Loc}{hd:Bool}{v:MV}(h:unb l t (put hd t v l P)):put hd t v l fun l'=>Up l l'∧P l':=by
 cases t with
 | one i=>have h:=unbs_of h;exact lputs_up (vs:=[v]) h.1 (fun _ _ e=>e) h.2
 | many is=>
  have h:=unbs_of h
  refine ⟨h.2.1,?_⟩
  have q:=h.2.2
  cases v with
  | tup vs=>exact lputs_up h.1 (fun _ _ e=>e) q
  | _=>exact q.elim
theorem sim_turn (hnc:NoCell nm)(hT:TgOk c nm target t)(hC:IfsOk c nm ifs cd)(hI:InOk c φ nm D mo b inner m)(hDC:D≠φ.env.locals){x:MV}{v:Value}(W:KOk c φ K)(h:Here c φ nm lc g)(a:Acc c D mo ys g)(hN:ys.length+b≤sizeLine)(hv:VR c g.m x v)(q:turn t cd m K.quiet lc x Q g.H) :
  Sm c (φ.x [D,φ.env.locals]) (turnT target ifs inner φ.env v) g (fun _=>TN c φ nm D mo lc ys b Q) noE:=by
 unfold turnT
 refine Sm.bind (N:=fun _ g₁=>AN c φ nm g.H _ g₁∧Acc c D mo ys g₁) (((hT φ [φ.env.locals] K.hd lc _ x v g noE ⟨.head _, .inr hnc⟩ W.hd.symm h hv (put_up q)).mono fun _ g₁ _ S n=>⟨n,a.step S fun q=>hDC (List.mem_singleton.mp q)⟩).weaken fun b hb=> .inl (.tail _ hb)) fun _ g₁ R₁ S₁ n=>?_
 obtain ⟨⟨eH,lc₁,F₁,up,q⟩,a₁⟩:=n
 have h₁:Here c φ nm lc₁ g₁:=⟨F₁,h.ok.turn S₁ F₁ a₁⟩
 refine Sm.next (hC φ K.quiet lc₁ _ g₁ W.quiet h₁ (eH▸q)) fun r g₂ R₂ S₂ n=>?_
 have h₂:=h₁.step S₂
 have a₂:=a₁.step S₂ nofun
 have q:bif r then m K.quiet lc₁ Q g₂.H else Q [] g₂.H:=by cases r <;> exact n
 cases r with
 | false=>exact .pure ⟨h₂.fr.lower up,[],Nat.zero_le _,(List.append_nil ys).symm▸a₂,q⟩
 | true=>exact (hI K lc₁ ys Q g₂ W h₂ a₂ hN q).mono fun _ g₃ _ _ n=>⟨n.fr.lower up,n.q⟩
noncomputable def LoopC (c:Wo)(φ:Fr)(nm:Nms)(D:Addr)(mo:List τ→MO)(lc:Loc)(ys:List τ)(b:Nat)(Q:Po (List τ))(g₀:Sg)(r:Result)(s:Shared):Prop:=r= .ok .next∧Nd c [] [D,φ.env.locals] g₀ (TN c φ nm D mo lc ys b Q) s
structure LoopK (A:Around)(e:Expr)(d:Nat)(D:Addr)(target iter:Expr)(ifs:List Expr)(inner:Sem Unit)(env:Env):Prop where
 cl:(clausesOf e)[d]?=some ⟨target,iter,ifs,0⟩
 eq:∀it,compTurn e d it (.ref D) env=loopT e d it (.ref D) target iter ifs inner env
 f1:∀it,(Code.compStart e d it (.ref D) env).isFrame=false
 f2:∀it,(Code.compLoop e d it (.ref D) env).isFrame=false
 qt:∀it,(Code.compLoop e d it (.ref D) env).quiet=true
 u2:∀it,A.under (Code.compLoop e d it (.ref D) env) =A
 u1:∀it,A.under (Code.compStart e d it (.ref D) env) =A
theorem den_loop {e:Expr}{d:Nat}{v acc:Value}{env:Env}{R:Result→Shared→Prop}{s:Shared}{A:Around}{prog:Program}{w:World}(hf:(Code.compLoop e d v acc env).isFrame=false)(hu:A.under (Code.compLoop e d v acc env) =A)
  (h:wpAny (model prog w) A (compTurn e d v acc env) (fun f s=>match f with
   | .done f=>R (.ok f) s
   | .again c'=>c'.quiet=true∧codeAny (model prog w) A c' R s) (notedBy (model prog w) A env fun e s=>R (.error e) s) s):codeAny (model prog w) A (.compLoop e d v acc env) R s:=by
 refine codeAny_of_tree ?_
 have hden:(model prog w).den (.compLoop e d v acc env) = (compTurn e d v acc env).onRaise (fun x=>do noteFrame x env;theTreesLotGoes x):=by
  show (if (Code.compLoop e d v acc env).isFrame then _ else _) =_
  rw [hf];rfl
 rw [hu,hden]
 exact wpAny_noted h
theorem comp_code {I:Addr}{IS:List Addr}{xs:List MV}{St:Nat→Sg→Prop}{d:Nat}(Z:LoopK φ.A e d D target it ifs inner φ.env)(hnc:NoCell nm)(hT:TgOk c nm target t)(hC:IfsOk c nm ifs cd)(hI:InOk c φ nm D mo b inner m)(hDC:D≠φ.env.locals)(W:KOk c φ K)
  (It:Itr c φ.A target I IS xs St) (R₀:SR c g₀) (B₀:AOk φ.toFm g₀) (hIS:∀a∈IS,g₀.at a=none) (hp:∀a∈φ.X,a∉IS) (hDI:D∉IS) (rest:List MV) :
  ∀(i:Nat) (ys:List τ) (Q:Po (List τ)) (g:Sg),xs.drop i=rest→i≤xs.length→Step [] [D,φ.env.locals] g₀ g→SR c g→St i g→FR c φ.env nm lc g→Acc c D mo ys g→ys.length+rest.length * b≤sizeLine→eachM (turn t cd m K.quiet lc) rest Q g.H→
   codeAny (model c.prog c.w) φ.A (.compLoop e d (.ref I) (.ref D) φ.env) (LoopC c φ nm D mo lc ys (rest.length * b) Q g₀) g.s:=by
 induction rest with
 | nil=>
  intro i ys Q g hd hi S R st F a hN q
  obtain rfl:i=xs.length:=Nat.le_antisymm hi (List.drop_eq_nil_iff.mp hd)
  refine den_loop (Z.f2 _) (Z.u2 _) ?_
  rw [Z.eq]
  unfold loopT
  have dn:=It.done g (fun _ _=>False) (fun s'=>LoopC c φ nm D mo lc ys (([]:List MV).length * b) Q g₀ (.ok .next) s') R st fun h' tk hk=>
   ⟨rfl,g.on h' tk,rfl,R.of_but (X:=IS) (fun a o e ha=>hk a o ha e) fun a ha=>(It.priv _ _ st a ha).1,S.butNew hIS hk,F.keep (g':=g.on h' tk) (.refl _) (fun a ha o e=>⟨o.slots,hk a o (hp a ha) e⟩) fun a ha=>(F.priv a ha).p.rec fun a b=>⟨a,b⟩,
    [],Nat.zero_le _,(List.append_nil ys).symm▸⟨a.at_.imp fun o q=>⟨hk D o hDI q.1,q.2⟩,a.priv.rec fun a b=>⟨a,b⟩⟩,q⟩
  refine wpAny_bind (wpAny_standAt (wpAny_bind (wpAny_mono dn (fun r s' q=>?_) fun _ _ f=>f.elim)))
  obtain ⟨rfl,q⟩:=q
  exact wpAny_pure q
 | cons x rest ih=>
  intro i ys Q g hd hi S R st F a hN q
  obtain ⟨hx,hd',hlt⟩:=drop_cons hd
  have hN':ys.length+ (rest.length * b+b)≤sizeLine:=by rw [List.length_cons,Nat.succ_mul] at hN;exact hN
  refine den_loop (Z.f2 _) (Z.u2 _) ?_
  rw [Z.eq]
  unfold loopT
  refine wpAny_bind (wpAny_standAt (wpAny_bind (wpAny_mono (It.step i x g _ (fun v s'=>wpAny (model c.prog c.w) φ.A (turnT target ifs inner φ.env v) (fun _ s₂=>codeAny (model c.prog c.w) φ.A (.compLoop e d (.ref I) (.ref D) φ.env) (LoopC c φ nm D mo lc ys ((x::rest).length * b) Q g₀) s₂) (fun _ _=>False) s') hx R st fun V g₁ hv S₁ R₁ hH st₁=>?_) (fun r s' q=>?_) fun _ _ z=>z)))
  ·have S₁':Step [] [D,φ.env.locals] g₀ g₁:=S.after R₀ R S₁ hIS
   have F₁:FR c φ.env nm lc g₁:=F.step S₁ hp
   have a₁:=a.step S₁ hDI
   refine wpAny_mono (sim_turn hnc hT hC hI hDC W ⟨F₁,B₀.turn S₁' F₁ a₁⟩ a₁ (Nat.le_trans (Nat.add_le_add_left (Nat.le_add_left _ _) _) hN') hv (hH▸q) R₁) (fun _ s₂ n=>?_) fun _ _ q=>q.rec fun _ _ _ _ x=>x.E.elim
   obtain ⟨g₂,rfl,R₂,S₂,F₂,zs,hl,a₂,q⟩:=n
   have st₂:=It.frame _ _ _ _ st₁ R₁ R₂ S₂ fun b hb=>by
    rcases List.mem_cons.mp hb with rfl | hb
    ·exact ⟨a₁.priv,hDI⟩
    ·rw [List.mem_singleton.mp hb];exact ⟨(F₁.priv _ (.head _)).p,hp _ (.head _)⟩
   refine codeAny_mono (ih (i+1) (ys ++ zs) _ g₂ hd' hlt (S₁'.trans R₀ R₁ S₂) R₂ st₂ F₂ a₂ ?_ q) fun r s q=>⟨q.1,q.2.mono fun g₃ _ _ n=>⟨n.fr,?_⟩⟩
   ·rw [List.length_append,Nat.add_assoc];exact Nat.le_trans (Nat.add_le_add_left (by rw [Nat.add_comm];exact Nat.add_le_add_left hl _) _) hN'
   ·obtain ⟨zs',hl',a',q⟩:=n.q
    exact ⟨zs ++ zs',by rw [List.length_append,List.length_cons,Nat.succ_mul,Nat.add_comm];exact Nat.add_le_add hl' hl,List.append_assoc ys zs zs'▸a',q⟩
  ·obtain ⟨v,rfl,q⟩:=q
   exact wpAny_bind (wpAny_mono q (fun _ s₁ q₁=>wpAny_bind (wpAny_mono q₁ (fun _ s₂ q₂=>wpAny_pure ⟨Z.qt _,q₂⟩) fun _ _ z=>z.elim)) fun _ _ z=>z)
end
end Mine
end
section
namespace Mine
open PySem PySem.W PySem.Calls PyProof.Rows PySem.SeqAt
section
variable {τ:Type}{c:Wo}{φ:Fr}{nm:Nms}{target e it:Expr}{t:Tg}{ifs:List Expr}{cd:Cd Bool}{inner:Sem Unit}{m:Cd (List τ)}{K:Kx}{g g' g₀:Sg}{lc lc₀:Loc}{D:Addr}{mo:List τ→MO}{b B:Nat}{ys:List τ}{Q:Po (List τ)}
theorem compStart_tree {A:Around}{prog:Program}{w:World}{E:Value→Shared→Prop}{s:Shared}{env:Env}{d:Nat}{it acc:Value}{x:Comprehension}(hg:(clausesOf e)[d]?=some x)(ha:x.is_async=0){Q:Fin→Shared→Prop}
  (h0:Q (.again (.compLoop e d it acc env)) s) (h:wpAny (model prog w) A (pyIter it) (fun it' s'=>Q (.again (.compLoop e d it' acc env)) s') E s):wpAny (model prog w) A (compStart e d it acc env) Q E s:=by
 unfold compStart
 rw [hg]
 have e1:(Option.elim (some x) false fun x=>x.is_async != 0) =false:=by show (x.is_async != 0) =false;rw [ha];rfl
 rw [e1]
 refine wpAny_bind (wpAny_askSetting (wpAny_ite ?_))
 split
 ·exact wpAny_bind (wpAny_pure (wpAny_pure h0))
 ·exact wpAny_bind (wpAny_rule (wpAny_bind (wpAny_standAt (wpAny_bind (wpAny_mono h (fun it' s' h'=>wpAny_pure h') fun _ _ x=>x)))))
theorem sim_start {gI:Sg}{xs:List MV}{itv:Value}{d:Nat}(Z:LoopK φ.A e d D target it ifs inner φ.env)(hnc:NoCell nm)(hT:TgOk c nm target t)(hC:IfsOk c nm ifs cd)(hI:InOk c φ nm D mo b inner m)(hDC:D≠φ.env.locals)(W:KOk c φ K)
  (R₀:SR c g₀) (B₀:AOk φ.toFm g₀) (RI:SR c gI) (I:ItR c φ.A target g₀ xs itv gI) (SI:Step [] [] gI g) (hp:∀a∈D::φ.X,(∃o,g₀.at a=some o)∨gI.at a=none)
  (S:Step [] [D,φ.env.locals] g₀ g) (R:SR c g) (F:FR c φ.env nm lc g) (a:Acc c D mo ys g) (hl:ys.length+xs.length * b≤sizeLine) (q:eachM (turn t cd m K.quiet lc) xs Q g.H) :
  codeAny (model c.prog c.w) φ.A (.compStart e d itv (.ref D) φ.env) (LoopC c φ nm D mo lc ys (xs.length * b) Q g₀) g.s:=by
 obtain ⟨I,IS,St,rfl,It,hIS,st⟩:=I
 have nI:∀a∈D::φ.X,a∉IS:=fun a ha hi=>(hp a ha).elim (fun ⟨o,e⟩=>nomatch (hIS a hi).symm.trans e) fun e=>(It.priv _ _ st a hi).2.elim fun o e'=>nomatch e.symm.trans e'
 have st:=It.frame 0 [] _ _ st RI R SI nofun
 have loop:=comp_code Z hnc hT hC hI hDC W It R₀ B₀ hIS (fun a ha=>nI a (.tail _ ha)) (nI D (.head _)) xs 0 ys Q g rfl (Nat.zero_le _) S R st F a hl q
 refine codeAny_of_tree ?_
 have hden:(model c.prog c.w).den (.compStart e d (.ref I) (.ref D) φ.env) = (compStart e d (.ref I) (.ref D) φ.env).onRaise (fun x=>do noteFrame x φ.env;standAt theWindowsPlace):=by
  show (if (Code.compStart e d (.ref I) (.ref D) φ.env).isFrame then _ else _) =_
  rw [Z.f1];rfl
 rw [Z.u1,hden]
 refine wpAny_notedAt (compStart_tree Z.cl rfl ⟨Z.qt _,loop⟩ ?_)
 exact It.self 0 g _ _ st ⟨Z.qt _,loop⟩
theorem InOk.more {d:Nat}{mi:Cd (List MV)}(Z:LoopK φ.A e (d+1) D target it ifs inner φ.env)(hs:NoSet it)(hnc:NoCell nm)(hT:TgOk c nm target t)(hC:IfsOk c nm ifs cd)(hI:InOk c φ nm D mo b inner m)(hD:D∉φ.X)(hIt:IBk c nm target it mi B) :
  InOk c φ nm D mo (B * b) (moreL e it d (.ref D) φ.env) (igen t mi cd m):=fun K lc ys Q g W h a hN q R=>by
 refine wpAny_bind (wpAny_mono (hIt φ K.quiet lc _ g W.quiet h q R) (fun x s n=>?_) fun _ _ q=>q.rec fun _ _ _ _ x=>x.E.elim)
 obtain ⟨g₁,rfl,R₁,S₁,n⟩:=n
 refine wpAny_bind (wpAny_standAt (wpAny_bind (wpAny_of_eq (hs φ.env x) (wpAny_bind (wpAny_holding (wpAny_mono (n R₁) (fun itv s n=>?_) fun _ _ q=>q.rec fun _ _ _ _ x=>x.E.elim))))))
 obtain ⟨g₂,rfl,R₂,S₂,xs,_,⟨hB,q⟩,I⟩:=n
 have S:=S₁.trans R R₁ S₂
 have hb:xs.length * b≤B * b:=Nat.mul_le_mul_right _ hB
 have code:=sim_start (K:=K) (lc:=lc) (ys:=ys) (Q:=Q) Z hnc hT hC hI (fun q=>hD (q▸ .head _)) W R h.ok R₂ I .refl (fun a' ha=> .inl ((List.mem_cons.mp ha).elim (fun e=>by rw [e];exact a.at_.imp fun _ h=>h.1) fun ha=>(h.fr.priv a' ha).o.imp fun _ h=>h.1)) (S.weaken nofun) R₂ (h.step S).fr (a.step S nofun) (Nat.le_trans (Nat.add_le_add_left hb _) hN) q
 refine wpAny_bind (wpAny_runOwn (codeAny_mono code fun r s' hq=>?_))
 obtain ⟨rfl,hq⟩:=hq
 exact wpAny_pure (hq.mono fun g' _ _ n=>⟨n.fr,n.q.imp fun zs q=>⟨Nat.le_trans q.1 hb,q.2⟩⟩)
theorem own_end {h:Heap}{tk:Nat}{o':Obj}(R:SR c g)(F:FR c φ.env nm lc g)(a:Acc c D mo ys g)(hD:D∉φ.X)(hs:Heap.SameBut D g.s.heap h)(hu:h.get? D=some o'){zs:List τ}(ho:OR c g.m (mo zs) o') :
  SR c (g.on h tk)∧Step [] [D,φ.env.locals] g (g.on h tk)∧FR c φ.env nm lc (g.on h tk)∧Acc c D mo zs (g.on h tk):=
 have k:∀b o,g.at b=some o→b∉ [D]→h.get? b=some o:=fun b o e hb=>hs.extBut b o (fun q=>hb (q▸ .head _)) e
 have S:Step [] [D] g (g.on h tk):= .of_but k fun b hb o e=>List.mem_singleton.mp hb▸⟨o',hu⟩
 ⟨R.of_but k fun b hb=>List.mem_singleton.mp hb▸a.priv,S.weaken fun b hb=> .inl (List.mem_singleton.mp hb▸ .head _),F.step S fun b hb q=>hD (List.mem_singleton.mp q▸hb),⟨o',hu,ho⟩,a.priv.rec fun a b=>⟨a,b⟩⟩
theorem InOk.last {elt:Expr}{me:Cd MV}(hD:D∉φ.X)(hE:EOk c nm elt me):InOk c φ nm D .list 1 (lastL elt (.ref D) φ.env) (ione me):=fun K lc ys Q g W h a hN q=>by
 refine (hE φ K.quiet lc _ g W.quiet h q).next fun V g₁ R₁ S₁ n R=>?_
 obtain ⟨v,hv,q⟩:=n
 have a₁:=a.step S₁ nofun
 obtain ⟨o,hb,vs,k,rfl,hr⟩:=a₁.at_
 refine wpAny_bind (call_meets PySem.F.slot_list_append (list_type hb) PySem.F.entry_list_append (PySem.F.args_list_append_2 _ _) (PySem.list_append D vs.toArray k V (by rw [List.size_toArray,← hr.length];exact Nat.le_trans (Nat.le_add_right _ _) hN)) ⟨hb,wpAny_pure ?_⟩)
 have hu:(g₁.s.heap.update D (Obj.mapSeq fun x=>x.push V)).get? D=some (Obj.mapSeq (fun x=>x.push V) (oLst vs k)):=Heap.get?_update_self _ hb rfl
 have e4:Obj.mapSeq (fun x=>x.push V) (oLst vs k) =oLst (vs ++ [V]) (k+1):=by simp [Obj.mapSeq]
 obtain ⟨R',S,F,a'⟩:=own_end (mo:= .list) (tk:=g₁.s.toks) (zs:=ys ++ [v]) R₁ (h.step S₁).fr a₁ hD (Heap.SameBut.update ..) hu ⟨vs ++ [V],k+1,e4,(VRs.one hv).append hr⟩
 exact ⟨_,rfl,R',S,F,[v],Nat.le_refl _,a',q⟩
theorem dputs_snoc {k:Key}{v:MV}{ys:Dict}:∀ {es:Dict},dputs es (ys ++ [(k,v)]) =dput (dputs es ys) k v:=by
 induction ys with
 | nil=>intro _;rfl
 | cons y ys ih=>intro es;exact ih
theorem dput_len {α:Type}(es:List (Key × α))(k:Key)(v:α):(dput es k v).length≤es.length+1:=by
 unfold dput
 split
 ·rw [List.length_map];exact Nat.le_succ _
 ·rw [List.length_append];exact Nat.le_refl _
theorem dputs_len {ys:Dict}:∀ {es:Dict},(dputs es ys).length≤es.length+ys.length:=by
 induction ys with
 | nil=>intro es;exact Nat.le_refl _
 | cons y ys ih=>intro es;exact Nat.le_trans ih (by rw [List.length_cons,Nat.add_comm ys.length,← Nat.add_assoc];exact Nat.add_le_add_right (dput_len ..) _)
noncomputable def dictM (ys:Dict):MO:= .dict (dputs [] ys)
theorem InOk.lastD {kx vx:Expr}{mk mv:Cd MV}(hD:D∉φ.X)(hk:EOk c nm kx mk)(hx:EOk c nm vx mv):InOk c φ nm D dictM 1 (Mine.lastD kx vx D φ.env) (ipair mk mv):=fun K lc ys Q g W h a hN q=>by
 refine (hk φ K.quiet lc _ g W.quiet h q).next fun KV g₁ R₁ S₁ n=>?_
 obtain ⟨k,hkv,q⟩:=n
 have h₁:=h.step S₁
 refine Sm.next (Sm.holding (hx φ K.quiet lc _ g₁ W.quiet h₁ q)) fun V g₂ R₂ S₂ n=> .standAt fun R=>?_
 obtain ⟨v,hv,q⟩:=n
 obtain ⟨kk,hkey,q⟩:=(hkv.st S₂).asKey q
 have a₂:=(a.step S₁ nofun).step S₂ nofun
 obtain ⟨o,hb,kvs,ho,hr⟩:=a₂.at_
 refine wpAny_holding (wpAny_dictSet_pairs (knd:=c.kd) (k:=kk) hkey (Heap.dictOf_iff.mpr ⟨o,hb,ho⟩) (hsz:=?_) fun h' hd' hs=>?_)
 ·obtain ⟨o',hu,ho'⟩:=Heap.dictOf_iff.mp hd'
  obtain ⟨R',S,F,a'⟩:=own_end (mo:=dictM) (zs:=ys ++ [(kk,v)]) (tk:=g₂.s.toks+1) R₂ (h₁.step S₂).fr a₂ hD hs hu ⟨_,ho',by rw [dputs_snoc];exact hr.put kk hv⟩
  exact ⟨_,rfl,R',S,F,[(kk,v)],Nat.le_refl _,a',q⟩
 ·rw [← hr.length];exact Nat.le_trans dputs_len (Nat.le_trans (by rw [List.length_nil,Nat.zero_add];exact Nat.le_add_right _ _) hN)
end
end Mine
end
section
namespace Mine
open PySem PySem.W PySem.Calls PyProof.Rows PySem.SeqAt
noncomputable def frozenV:MO→MV
 | .list xs=> .lst xs
 | .dict es=> .dct es
noncomputable def mkO (mu:Bool)(o:MO)(Q:Po MV)(h:Hp):Prop:=bif mu then alloc o Q h else Q (frozenV o) h
structure WithC (c:Wo)(Q:Po MV)(V:Value)(C:Addr)(g:Sg):Prop where
 vn:VN c Q V g
 p:Priv g C
 ns:∃m,g.s.heap.Ns C m
noncomputable def CompE (c:Wo)(nm:Nms)(T:Env→Option (Value→Sem Unit)→Sem Value)(m:Cd MV):Prop:=∀(φ:Fr)(K:Kx)(lc:Loc)(Q:Po MV)(g:Sg)(use:Option (Value→Sem Unit))(Q' E':Value→Shared→Prop),KOk c φ K→Here c φ nm lc g→m K lc Q g.H→SR c g→
 (∀V C g',SR c g'→Step [] [] g g'→g.at C=none→WithC c Q V C g'→compPost (model c.prog c.w) φ.A E' use Q' V C (.ok .next) g'.s)→(∀Ev s',XE c (φ.x []) g K.E Ev s'→E' Ev s')→wpAny (model c.prog c.w) φ.A (T φ.env use) Q' E' g.s
section
variable {τ:Type}{c:Wo}{φ:Fr}{nm:Nms}{target e it:Expr}{t:Tg}{ifs:List Expr}{cd:Cd Bool}{inner:Sem Unit}{m:Cd (List τ)}{K:Kx}{g g' g₀:Sg}{lc lc₀:Loc}{D C:Addr}{mo:List τ→MO}{b B:Nat}{ys:List τ}{Q:Po MV}{csc:Scope}{hs:List (Option Nat)}
theorem fin_mk {o:MO}{ob:Obj}{mu:Bool}(R:SR c g')(S:Step [] [] g g')(hn:g.at D=none)(hsys:(D == sysModules) =false)(ho:g'.at D=some ob)(p:Priv g' D)(hr:OR c g'.m o ob)(ne:C≠D)(pC:Priv g' C)(ns:∃m,g'.s.heap.Ns C m)(q:mkO mu o Q g'.H) :
  ∃g'',g''.s=g'.s∧SR c g''∧Step [] [] g g''∧WithC c Q (.ref D) C g'':=by
 cases mu with
 | true=>exact ⟨g'.cl D ⟨.chg,o⟩,rfl,R.celled ho p hsys hr,S.celled hn,⟨.ref g'.H.length,⟨D,rfl,by
   show (g'.m.ρ ++ [D])[g'.H.length]?=_
   rw [← R.len,List.getElem?_concat_length]⟩,q⟩,⟨pC.z,fun w=>(List.mem_append.mp w).elim pC.r fun w=>ne (List.mem_singleton.mp w)⟩,ns⟩
 | false=>
  have le:=fz_priv (o:=ob) p
  refine ⟨g'.fz D ob,rfl,R.frozen ho p,S.frozen p hn,⟨frozenV o,?_,q⟩,⟨(zput_ne ne).trans pC.z,pC.r⟩,ns⟩
  cases o with
  | list xs=>obtain ⟨vs,n,rfl,r⟩:=hr;exact ⟨D,vs,n,rfl,hsys,zput_at,r.up le⟩
  | dict es=>obtain ⟨kvs,i,r⟩:=hr;exact ⟨D,ob,kvs,rfl,hsys,zput_at,i,r.up le⟩
theorem CompOk.nc (O:CompOk csc nm hs):NoCell csc.names:=fun i x e=>(hs_at O.hs e).elim fun _ q=>q.2.nocell rfl
theorem comp_core {p:Pos}{newAcc:Sem Value}{gs:List Comprehension}{o₀:Obj}{mi:Cd (List MV)}{mu:Bool}{f:Po MV→Po (List τ)}{mm:Cd MV}(CO:CompOk csc nm hs)(hcl:clausesOf e= ⟨target,it,ifs,0⟩ ::gs)(hset:NoSet it)(hIt:IBk c nm target it mi B)(hT:TgOk c csc.names target t)(hC:IfsOk c csc.names ifs cd)
  (hO0:∀m',OR c m' (mo []) o₀) (hfd:o₀.isFreed=false) (hnew:∀(A:Around) (Q:Value→Shared→Prop) E s,Q (.ref s.heap.objs.size) {s with heap:=s.heap.push o₀}→wpAny (model c.prog c.w) A newAcc Q E s) (hBb:B * b≤sizeLine)
  (hcode:∀(φ':Fr) D,D∉φ'.X→∃inner,LoopK φ'.A e 0 D target it ifs inner φ'.env∧InOk c φ' csc.names D mo b inner m)
  (hm:∀K lc Q,mm K lc Q=icomp hs t mi cd m K lc (f Q)) (hf:∀Q zs h,f Q zs h→mkO mu (mo zs) Q h):CompE c nm (fun env use=>comprehension e csc env p newAcc false (eval it env) use) mm:=fun φ K lc Q g use Q' E' W h q R hQ hX=>by
 rw [hm] at q
 refine wpAny_comprehension_free hcl (hset φ.env) (closure_ok fun x hx hf=>?_) CO.kind CO.loc ?_
 ·obtain ⟨y,k⟩:=x
  cases (hf:k= .free)
  exact (h.fr.free CO hx).imp fun a q=>q.elim fun _ q=>q.1
 refine wpAny_mono (hIt φ K lc _ g W h q R) (fun x s₁ n=>?_) hX
 obtain ⟨g₁,rfl,R₁,S₁,n⟩:=n
 refine wpAny_mono (n R₁) (fun itv s₂ n=>?_) fun Ev s' q=>hX Ev s' (q.xsince (φ:=φ.x []) S₁ R R₁)
 obtain ⟨g₂,rfl,R₂,S₂,xs,_,⟨hB,q⟩,I⟩:=n
 have S₂:=S₁.trans R R₁ S₂
 have h₂:=h.step S₂
 refine hnew _ _ _ _ (wpAny_newFunctionEnv (fun x hx=>by
  obtain ⟨i,o,_,_,H⟩:=CO.at_ hx
  exact H.nocell) (by intro y hy;cases hy) (fun h₁ hns hsb=>?_) CO.kind)
 have hC':(g₂.s.heap.push o₀).objs.size=g₂.s.heap.objs.size+1:=Heap.size_push _ _
 have hDC:g₂.s.heap.objs.size≠(g₂.s.heap.push o₀).objs.size:=by rw [hC'];exact Nat.ne_of_lt (Nat.lt_succ_self _)
 have hDn:g₂.at g₂.s.heap.objs.size=none:=push_none _
 have hCn:g₂.at (g₂.s.heap.push o₀).objs.size=none:=Heap.get?_none_of_le (by rw [hC'];exact Nat.le_succ _)
 have hDo:=hsb.extBut g₂.s.heap.objs.size o₀ hDC (Heap.get?_push_of_some _ (Heap.get?_push_size _ hfd))
 have old:∀b o,g₂.at b=some o→h₁.get? b=some o:=fun b o e=>hsb.extBut b o (fun q=>by rw [q,hCn] at e;cases e) (Heap.get?_push_of_some _ (Heap.get?_push_of_some _ e))
 generalize g₂.s.heap.objs.size=D at *
 generalize (g₂.s.heap.push o₀).objs.size=C at *
 generalize hk:g₂.s.toks+ ([]:List (Str × Value)).length=tk at *
 have S₄:Step [] [] g₂ (g₂.on h₁ tk):= .of_ext old
 have R₄:SR c (g₂.on h₁ tk):=R₂.of_ext old
 have F₄:=h₂.fr.comp (tk:=tk) CO hns hCn R₂ old
 have hDX:D∉(⟨φ.toFm,compEnvC csc (clOf φ.env csc.names []) C φ.env,φ.L⟩:Fr).X:=fun q=>(List.mem_cons.mp q).elim hDC fun q=>h₂.new hDn (h₂.fr.comp_cells CO q)
 obtain ⟨inner,Z,hI⟩:=hcode ⟨φ.toFm,compEnvC csc (clOf φ.env csc.names []) C φ.env,φ.L⟩ D hDX
 have sD:=S₂.absent hDn
 have sC:=S₂.absent hCn
 have code:=sim_start (φ:=⟨φ.toFm,compEnvC csc (clOf φ.env csc.names []) C φ.env,φ.L⟩) (K:=K) (lc:=hide hs lc) (ys:=[]) (Q:=f Q) Z CO.nc hT hC hI hDC ⟨W.base,W.call,W.hd⟩ R h.ok R₂ I S₄ (fun a ha=>(List.mem_cons.mp ha).elim (fun e=> .inr (by rw [e];exact hDn)) fun ha=>(List.mem_cons.mp ha).elim (fun e=> .inr (by rw [e];exact hCn)) fun ha=> .inl ((h.fr.priv a (h.fr.comp_cells CO ha)).o.imp fun _ q=>q.1))
  ((S₂.trans R R₂ S₄).weaken nofun) R₄ F₄ ⟨⟨o₀,hDo,hO0 _⟩,(R₂.absent hDn).rec fun a b=>⟨a,b⟩⟩ (by rw [List.length_nil,Nat.zero_add];exact Nat.le_trans (Nat.mul_le_mul_right _ hB) hBb) q
 refine codeAny_mono code fun r s' hq=>?_
 obtain ⟨rfl,g',rfl,R',S',F',zs,_,a',q⟩:=hq
 have S'':Step [] [] g g':=S'.weaken fun b hb=> .inr ((List.mem_cons.mp hb).elim (fun e=>by rw [e];exact sD) fun hb=>by rw [List.mem_singleton.mp hb];exact sC)
 obtain ⟨o,ho,hr⟩:=a'.at_
 obtain ⟨g'',e,R3,S3,w⟩:=fin_mk (Q:=Q) R' S'' sD (R.not_sys W.base.wd sD) ho a'.priv hr (Ne.symm hDC) (F'.priv C (.head _)).p (F'.ns.imp fun _ q=>q.1) (hf Q zs _ q)
 exact e▸hQ _ C g'' R3 S3 sC w
theorem EOk.comp {T:Env→Option (Value→Sem Unit)→Sem Value}{m:Cd MV}(hT:∀env,eval e env=T env Option.none)(h:CompE c nm T m):EOk c nm e m:=fun φ K lc Q g W hh hm R=>by
 rw [hT]
 refine h φ K lc Q g Option.none _ _ W hh hm R (fun V C g' R' S hn w=>?_) fun _ _ q=>q
 refine w.ns.imp fun m hm=>⟨hm,fun h' hs=>?_⟩
 have k:∀b o,b∉ [C]→g'.at b=some o→h'.get? b=some o:=fun b o hb e=>hs.extBut b o (fun q=>hb (q▸ .head _)) e
 exact ⟨g'.on h' g'.s.toks,rfl,R'.of_but (X:=[C]) (fun a o e ha=>k a o ha e) (fun a ha=>List.mem_singleton.mp ha▸w.p),S.butNew (IS:=[C]) (fun a ha=>List.mem_singleton.mp ha▸hn) k,w.vn.rec fun v hv q=>⟨v,hv,q⟩⟩
theorem SOk.asC {T:Env→Option (Value→Sem Unit)→Sem Value}{m:Cd MV}{i:Nat}{x:Str}{px q:Pos}(hT:∀env,eval e env=T env Option.none)(hU:∀env u,evalThenUse e env u= (T env (some u) >>= fun _=>pure ()))(hsw:∀line env,swapsWithSole [.Name x px] e line env=pure false∨swapsWithSole [.Name x px] e line env=pure true)
  (hi:Own nm i x) (h:CompE c nm T m):SOk c nm (.Assign [.Name x px] e q) (Mine.asS (.one i) m):=fun φ K N lc g W hh hm=>by
 rcases hsw q.line φ.env with h0 | h0
 ·rw [exec_Assign]
  refine .standAt ?_
  rw [h0,pure_bind,if_neg Bool.false_ne_true]
  refine (EOk.comp hT h φ K lc _ g W.toKOk hh hm).next fun V g₁ R₁ S₁ n=>?_
  obtain ⟨v,hv,q⟩:=n
  show Sm c _ (assign (.Name x px) φ.env V >>= fun _=>pure Flow.next) _ _ _
  exact (TgOk.one hi φ φ.X K.hd lc _ v V g₁ K.E .all W.hd.symm (hh.step S₁) hv q).bind fun _ g₂ R₂ S₂ n=> .pure (n.2.imp fun lc q=>⟨q.1,n.1.symm▸q.2⟩)
 ·rw [exec_Assign]
  refine .standAt fun R=>?_
  rw [h0,pure_bind,if_pos rfl,hU]
  refine wpAny_bind (wpAny_bind (h φ K lc _ g (some (assign (.Name x px) φ.env)) _ _ W.toKOk hh hm R (fun V C g' R' S hn w=>?_) fun _ _ q=>XE.wide q))
  obtain ⟨⟨v,hv,q⟩,pC,mC,oC,esC,epC,hoC,hrC⟩:=w
  have hCX:=hh.new hn
  have S':=S.weaken (X':=φ.X) nofun
  refine wpAny_mono (TgOk.one hi φ φ.X K.hd lc _ v V g' K.E .all W.hd.symm (hh.step S) hv q R') (fun _ s'' n=>?_) fun Ev s' q=>q.xsince (φ:=φ.x φ.X) S' R R'
  obtain ⟨g₂,rfl,R₂,S₂,eH,lc₂,F₂,q⟩:=n
  refine ⟨mC,⟨oC,esC,epC,(S₂.kp pC hCX hoC).eq,hrC⟩,fun h' hs=>wpAny_pure (wpAny_pure ?_)⟩
  have k:∀b o,b∉ [C]→g₂.at b=some o→h'.get? b=some o:=fun b o hb e=>hs.extBut b o (fun q=>hb (q▸ .head _)) e
  have p₂:=S₂.priv pC hoC
  exact ⟨g₂.on h' g₂.s.toks,rfl,R₂.of_but (X:=[C]) (fun a o e ha=>k a o ha e) (fun a ha=>List.mem_singleton.mp ha▸p₂),(S'.trans R R' S₂).butNew (IS:=[C]) (fun a ha=>List.mem_singleton.mp ha▸hn) k,lc₂,F₂.keep (.refl _) (fun a ha o e=>⟨o.slots,k a o (fun q=>hCX (List.mem_singleton.mp q▸ha)) e⟩) fun a ha=>(F₂.priv a ha).p.rec fun a b=>⟨a,b⟩,eH▸q⟩
end
end Mine
end
section
namespace Mine
open PySem PySem.W PySem.Calls PyProof.Rows PySem.SeqAt
noncomputable def treeL (elt it:Expr)(gs:List Comprehension)(csc:Scope)(pos:Pos)(env:Env)(use:Option (Value→Sem Unit)):Sem Value:=comprehension (.ListComp elt gs csc pos) csc env it.pos (newList []) false (eval it env) use
noncomputable def treeD (kx vx it:Expr)(gs:List Comprehension)(csc:Scope)(pos:Pos)(env:Env)(use:Option (Value→Sem Unit)):Sem Value:=comprehension (.DictComp kx vx gs csc pos) csc env it.pos newDict false (eval it env) use
theorem pure_cases (b:Bool):(pure b:Sem Bool) =pure false∨(pure b:Sem Bool) =pure true:=by
 cases b
 ·exact .inl rfl
 ·exact .inr rfl
section
variable {c:Wo}{nm:Nms}{target it elt kx vx:Expr}{t t':Tg}{ifs ifs':List Expr}{cd cd':Cd Bool}{mi mi':Cd (List MV)}{me mk mv:Cd MV}{csc:Scope}{hs:List (Option Nat)}{pos:Pos}{mu:Bool}
theorem CompE.list1 (CO:CompOk csc nm hs)(hset:NoSet it)(hIt:IOk c nm target it mi)(hT:TgOk c csc.names target t)(hC:IfsOk c csc.names ifs cd)(hE:EOk c csc.names elt me) :
  CompE c nm (treeL elt it [⟨target,it,ifs,0⟩] csc pos) (lcp mu (icomp hs t mi cd (ione me))):=
 comp_core (b:=1) (mo:= .list) (o₀:=oLst [] 0) (f:=fun Q ys=>mkList mu ys Q) CO rfl hset (.of hIt) hT hC (fun _=>⟨[],0,rfl,rfl⟩) rfl (fun A Q E s q=>wpAny_newObj_type q) (by rw [sizeLine_eq];decide)
  (fun φ' D hD=>⟨_,⟨rfl,fun _=>compTurn_last rfl rfl,fun _=>rfl,fun _=>rfl,fun _=>rfl,fun _=>rfl,fun _=>rfl⟩, .last hD hE⟩) (fun _ _ _=>rfl) fun Q zs h q=>q.2
theorem CompE.list2 {target' it':Expr}(CO:CompOk csc nm hs)(hset:NoSet it)(hIt:IOk c nm target it mi)(hT:TgOk c csc.names target t)(hC:IfsOk c csc.names ifs cd)(hset':NoSet it')(hIt':IOk c csc.names target' it' mi')(hT':TgOk c csc.names target' t')(hC':IfsOk c csc.names ifs' cd')(hE:EOk c csc.names elt me) :
  CompE c nm (treeL elt it [⟨target,it,ifs,0⟩,⟨target',it',ifs',0⟩] csc pos) (lcp mu (icomp hs t (lim mi) cd (igen t' (lim mi') cd' (ione me)))):=
 comp_core (b:=4000 * 1) (mo:= .list) (o₀:=oLst [] 0) (f:=fun Q ys=>mkList mu ys Q) CO rfl hset (.lim hIt) hT hC (fun _=>⟨[],0,rfl,rfl⟩) rfl (fun A Q E s q=>wpAny_newObj_type q) (by rw [sizeLine_eq];decide)
  (fun φ' D hD=>⟨_,⟨rfl,fun _=>compTurn_more rfl rfl,fun _=>rfl,fun _=>rfl,fun _=>rfl,fun _=>rfl,fun _=>rfl⟩,
   .more ⟨rfl,fun _=>compTurn_last rfl rfl,fun _=>rfl,fun _=>rfl,fun _=>rfl,fun _=>rfl,fun _=>rfl⟩ hset' CO.nc hT' hC' (.last hD hE) hD (.lim hIt')⟩) (fun _ _ _=>rfl) fun Q zs h q=>q.2
theorem CompE.dict (CO:CompOk csc nm hs)(hset:NoSet it)(hIt:IOk c nm target it mi)(hT:TgOk c csc.names target t)(hC:IfsOk c csc.names ifs cd)(hK:EOk c csc.names kx mk)(hV:EOk c csc.names vx mv) :
  CompE c nm (treeD kx vx it [⟨target,it,ifs,0⟩] csc pos) (dcp mu (icomp hs t mi cd (ipair mk mv))):=
 comp_core (b:=1) (mo:=dictM) (o₀:={cls:= .type "dict",data:= .dict #[]}) (f:=fun Q es h=>es.length≤sizeMost∧mkDict mu (dputs [] es) Q h) CO rfl hset (.of hIt) hT hC (fun _=>⟨[],by
   obtain ⟨o,h1,h2⟩:=Heap.dictOf_iff.mp (Heap.DictOf.new (knd:=c.kd) ({}:Heap))
   rw [Heap.get?_push_size _ rfl] at h1
   cases h1;exact h2,rfl⟩) rfl (fun A Q E s q=>wpAny_bind (wpAny_alloc (wpAny_pure q))) (by rw [sizeLine_eq];decide)
  (fun φ' D hD=>⟨_,⟨rfl,fun _=>compTurn_dict1,fun _=>rfl,fun _=>rfl,fun _=>rfl,fun _=>rfl,fun _=>rfl⟩, .lastD hD hK hV⟩) (fun _ _ _=>rfl) fun Q zs h q=>q.2.2
variable {T:Env→Option (Value→Sem Unit)→Sem Value}{m:Cd MV}{gs:List Comprehension}{p px:Pos}{i:Nat}{x:Str}
theorem EOk.listC (hg:gs= ⟨target,it,ifs,0⟩ ::gs.tail)(h:CompE c nm (treeL elt it gs csc pos) m):EOk c nm (.ListComp elt gs csc pos) m:= .comp (fun env=>by rw [hg];rfl) h
theorem EOk.dictC (h:CompE c nm (treeD kx vx it [⟨target,it,ifs,0⟩] csc pos) m):EOk c nm (.DictComp kx vx [⟨target,it,ifs,0⟩] csc pos) m:= .comp (fun env=>rfl) h
theorem SOk.asL (hg:gs= ⟨target,it,ifs,0⟩ ::gs.tail)(hi:Own nm i x)(h:CompE c nm (treeL elt it gs csc pos) m):SOk c nm (.Assign [.Name x px] (.ListComp elt gs csc pos) p) (Mine.asS (.one i) m):= .asC (fun env=>by rw [hg];rfl) (fun env u=>by rw [hg];rfl) (fun _ _=>pure_cases _) hi h
theorem SOk.asD (hi:Own nm i x)(h:CompE c nm (treeD kx vx it [⟨target,it,ifs,0⟩] csc pos) m):SOk c nm (.Assign [.Name x px] (.DictComp kx vx [⟨target,it,ifs,0⟩] csc pos) p) (Mine.asS (.one i) m):= .asC (fun env=>rfl) (fun env u=>rfl) (fun _ _=>pure_cases _) hi h
end
end Mine
end
section
namespace Mine
open PySem PySem.W PySem.Calls PyProof.Rows PySem.SeqAt
noncomputable def fnSc (ps:List Str)(scope:Scope)(nm:Nms):Bool:=
 scope.kind == .function && !scope.isCoroutine && !scope.isGenerator && scope.names.all (fun x=>x.2 != .free) && decide (((cellsFrom 0 scope.names []).map (·.1)).Nodup) &&
 nm.all (fun p=>scope.names.lookup p.1 == some p.2) && decide (nm.map (·.1)).Nodup && (nm.take ps.length).map (·.1) == ps && (nm.take ps.length).all fun p=>p.2 == .local || p.2 == .cell
structure FnSc (ps:List Str)(scope:Scope)(nm:Nms):Prop where
 kind:scope.kind= .function
 co:scope.isCoroutine=false
 gen:scope.isGenerator=false
 nofree:∀x∈scope.names,x.2≠ .free
 nodup:((cellsFrom 0 scope.names []).map (·.1)).Nodup
 look:∀p∈nm,scope.names.lookup p.1=some p.2
 nd:(nm.map (·.1)).Nodup
 fst:(nm.take ps.length).map (·.1) =ps
 own:∀p∈nm.take ps.length,p.2= .local∨p.2= .cell
theorem fnSc_iff {ps:List Str}{scope:Scope}{nm:Nms}(h:fnSc ps scope nm=true):FnSc ps scope nm:=by
 unfold fnSc at h
 simp only [Bool.and_eq_true,decide_eq_true_eq,List.all_eq_true,Bool.or_eq_true,Bool.not_eq_true',beq_iff_eq,bne_iff_ne] at h
 obtain ⟨⟨⟨⟨⟨⟨⟨⟨h1,h2⟩,h3⟩,h4⟩,h5⟩,h6⟩,h7⟩,h8⟩,h9⟩:=h
 exact ⟨h1,h2,h3,h4,h5,h6,h7,h8,h9⟩
theorem FnSc.pnd {ps:List Str}{scope:Scope}{nm:Nms}(h:FnSc ps scope nm):ps.Nodup:=h.fst▸List.Nodup.sublist (List.Sublist.map _ (List.take_sublist _ _)) h.nd
theorem FnSc.par {ps:List Str}{scope:Scope}{nm:Nms}(h:FnSc ps scope nm){x:Str}(hx:x∈ps):scope.names.lookup x=some .local∨scope.names.lookup x=some .cell:=by
 rw [← h.fst] at hx
 obtain ⟨p,hp,rfl⟩:=List.mem_map.mp hx
 rw [h.look p (List.mem_of_mem_take hp)]
 exact (h.own p hp).imp (fun e=>by rw [e]) fun e=>by rw [e]
structure FnOk (c:Wo)(f:Addr)(ps:List Str)(body:List Stmt)(scope:Scope)(nm:Nms)(fo:Obj)(fd:FuncData):Prop where
 get:c.G.get? f=some fo
 dat:fo.data= .func fd
 body:fd.body= .stmts body
 scp:fd.scope=scope
 glob:fd.globals=mainGlobals
 blt:fd.builtins=builtinsNs
 clo:fd.closure= []
 code:c.G.CodeRec fd.code fd.qualname
 sc:FnSc ps scope nm
theorem bindL_skip {k:Str→Option NameKind}{x:Str}:∀(bs:List (Str × Value))(m:Str→Option Value),x∉bs.map (·.1)→bindL k bs m x=m x
 | [],_,_=>rfl
 | (n,v) ::r,m,h=>by
  simp only [List.map_cons,List.mem_cons,not_or] at h
  unfold bindL
  rw [bindL_skip r _ h.2]
  split
  ·exact if_neg h.1
  ·rfl
theorem bindC_skip {k:Str→Option NameKind}{x:Str}:∀(bs:List (Str × Value))(m:Str→Option Value),x∉bs.map (·.1)→bindC k bs m x=m x
 | [],_,_=>rfl
 | (n,v) ::r,m,h=>by
  simp only [List.map_cons,List.mem_cons,not_or] at h
  unfold bindC
  rw [bindC_skip r _ h.2]
  split
  ·rfl
  ·exact if_neg h.1
theorem bindL_at {k:Str→Option NameKind}{x:Str}{v:Value}(hk:k x=some .local):∀(bs:List (Str × Value))(m:Str→Option Value),(bs.map (·.1)).Nodup→(x,v)∈bs→bindL k bs m x=some v
 | (n,u) ::r,m,hn,h=>by
  rw [List.map_cons,List.nodup_cons] at hn
  unfold bindL
  rcases List.mem_cons.mp h with e | h
  ·cases e
   rw [bindL_skip r _ hn.1,if_pos hk,if_pos rfl]
  ·exact bindL_at hk r _ hn.2 h
theorem bindC_at {k:Str→Option NameKind}{x:Str}{v:Value}(hk:k x≠some .local):∀(bs:List (Str × Value))(m:Str→Option Value),(bs.map (·.1)).Nodup→(x,v)∈bs→bindC k bs m x=some v
 | (n,u) ::r,m,hn,h=>by
  rw [List.map_cons,List.nodup_cons] at hn
  unfold bindC
  rcases List.mem_cons.mp h with e | h
  ·cases e
   rw [bindC_skip r _ hn.1,if_neg hk,if_pos rfl]
  ·exact bindC_at hk r _ hn.2 h
theorem zip_names {ps:List Str}{Vs:List Value}(h:ps.length=Vs.length):(ps.zip Vs).map (·.1) =ps:=List.map_fst_zip (Nat.le_of_eq h)
theorem lat_rep {k:Nat}{v:MV}:∀ {i:Nat},lat (List.replicate k none) i≠some v:=by
 induction k with
 | zero=>intro i e;cases e
 | succ k ih=>intro i e;cases i with
  | zero=>cases e
  | succ i=>exact ih e
theorem args_at {c:Wo}{m:Mp}{k:Nat}{v:MV}{vs:List MV}:∀ {ns:Nms}{ps:List Str}{Vs:List Value},VRs c m vs Vs→ps.length=vs.length→(ns.take ps.length).map (·.1) =ps→∀ {i:Nat}{x:Str}{kk:NameKind},ns[i]?=some (x,kk)→lat (vs.map some ++ List.replicate k none) i=some v→∃V,(x,V)∈ps.zip Vs∧VR c m v V:=by
 induction vs with
 | nil=>intro ns ps Vs _ _ _ i x kk _ e;exact absurd e lat_rep
 | cons u vs ih=>
  intro ns ps Vs hv hl ht i x kk hi e
  obtain ⟨V,Vs,rfl,h1,h2⟩:=hv
  cases ps with
  | nil=>cases hl
  | cons p ps=>
   cases ns with
   | nil=>cases hi
   | cons n ns=>
    obtain ⟨e1,e2⟩:=List.cons.inj ht
    cases i with
    | zero=>cases hi;cases e;exact ⟨V,by subst e1;exact .head _,h1⟩
    | succ i=>
     obtain ⟨V',m1,m2⟩:=ih h2 (Nat.succ.inj hl) e2 hi e
     exact ⟨V', .tail _ m1,m2⟩
section
variable {c:Wo}{nm:Nms}{g g' g₀:Sg}{lc:Loc}{f:Addr}{ps:List Str}{body:List Stmt}{scope:Scope}{fo:Obj}{fd:FuncData}{l:List Env}{X:List Addr}
structure NewFr (c:Wo)(scope:Scope)(nm:Nms)(lc:Loc)(g:Sg)(env:Env)(g':Sg):Prop where
 fr:FR c env nm lc g'
 fresh:∀a∈privOf env,g.at a=none
 L:env.frame=some env.locals
 keep:∀b o,g.at b=some o→g'.at b=some o
 kind:∀y,env.kindOf y=scope.names.lookup y
theorem call_fr {binds:List (Str × Value)}{h':Heap}{tk:Nat}(K:FnOk c f ps body scope nm fo fd)(R:SR c g)(hnd:(binds.map (·.1)).Nodup)(hloc:∀(i:Nat) x k v,nm[i]?=some (x,k)→lat lc i=some v→∃V,(x,V)∈binds∧VR c g.m v V)
  {env:Env}(he:env=newEnv fd.scope g.s.heap.objs.size fd.globals (cellsFrom (g.s.heap.objs.size+1) fd.scope.names []) (fd.qualname ++ ".<locals>.") (some f) fd.code none fd.builtins)
  (x:InCallC g.s env.locals (bindL env.kindOf binds fun _=>none) env.cells (bindC env.kindOf binds fun _=>none) {g.s with heap:=h',toks:=tk}):NewFr c scope nm lc g env (g.on h' tk):=by
 have hsc:=K.scp
 have keep:=x.toInCall.keep
 have e1:env.scope=scope:=by rw [he];exact hsc
 have e2:env.locals=g.s.heap.objs.size:=by rw [he];rfl
 have e3:env.cells=cellsFrom (g.s.heap.objs.size+1) scope.names []:=by rw [he,← hsc];rfl
 have hk:∀y,env.kindOf y=scope.names.lookup y:=fun y=>by show env.scope.names.lookup y=_;rw [e1]
 have cnd:(env.cells.map (·.1)).Nodup:=by rw [e3];exact cellsFrom_names scope.names 0 (g.s.heap.objs.size+1) [] [] rfl▸K.sc.nodup
 have fresh:∀a∈privOf env,g.at a=none:=fun a ha=>by
  rcases List.mem_cons.mp ha with rfl | ha
  ·rw [e2];exact push_none _
  ·obtain ⟨p,hp,rfl⟩:=List.mem_map.mp ha
   have:=x.above p.1 p.2 hp
   rw [e2] at this
   exact Heap.get?_none_of_le (Nat.le_of_lt this)
 refine ⟨⟨by rw [e1];exact K.sc.kind,by rw [he];exact K.glob,by rw [he];exact K.blt,K.sc.nd,fun i y k hy=>⟨k,(hk y).trans (K.sc.look _ (List.mem_of_getElem? hy)), .inl rfl⟩,⟨_,x.toInCall.ns,fun i y k v hi hv hy=>?_⟩,fun y hy=>?_,fun a ha=>⟨(R.absent (fresh a ha)).rec fun a b=>⟨a,b⟩,?_⟩,fun q=>?_,fun y z c h1 h2=>name_of_addr x.apart (mem_of_lookup h1) (mem_of_lookup h2)⟩,fresh,by rw [he];rfl,keep,hk⟩
 ·obtain ⟨V,h1,h2⟩:=hloc i y k v hi hv
  exact ⟨V,bindL_at hy _ _ hnd h1,h2⟩
 ·have hc:scope.names.lookup y=some .cell:=by
   rw [hk] at hy
   exact hy.elim id fun hy=>absurd rfl (K.sc.nofree _ (lookup_mem_of hy))
  have hs:=cellsFrom_some scope.names (g.s.heap.objs.size+1) [] (.inl hc)
  rw [← e3] at hs
  obtain ⟨a,ha⟩:=Option.isSome_iff_exists.mp hs
  refine ⟨a,_,ha,x.cell y a ha,fun i k v hi hv=>?_⟩
  obtain ⟨V,h1,h2⟩:=hloc i y k v hi hv
  exact ⟨V,bindC_at (by rw [hk,hc];nofun) _ _ hnd h1,h2⟩
 ·rcases List.mem_cons.mp ha with rfl | ha
  ·exact x.toInCall.ns.imp fun o q=>q.elim fun _ q=>q.elim fun _ q=>⟨q.1,fun vs e=>nomatch q.2.1.symm.trans e⟩
  ·obtain ⟨p,hp,rfl⟩:=List.mem_map.mp ha
   exact (x.cell p.1 p.2 (lookup_of_mem_nodup cnd hp)).imp fun o q=>⟨q.1,fun vs e=>nomatch q.2.symm.trans e⟩
 ·obtain ⟨p,hp,e⟩:=List.mem_map.mp q
  have:=x.above p.1 p.2 hp
  rw [(e:p.2=env.locals)] at this;exact Nat.lt_irrefl _ this
theorem deep_lt {a d j c n e L:Nat}(hd:a≤d+1)(hj:j+1≤c)(h:d+c * (n+1) +e < L):a+j+c * n+e < L:=by
 refine Nat.lt_of_le_of_lt (Nat.add_le_add_right ?_ e) h
 rw [Nat.mul_succ,Nat.add_comm (c * n) c,← Nat.add_assoc]
 exact Nat.add_le_add_right (Nat.le_trans (Nat.add_le_add_right hd j) (by rw [Nat.add_assoc,Nat.add_comm 1 j];exact Nat.add_le_add_left hj d)) _
theorem deeper_ok {φ:Fm}{A:Around}{env:Env}{n:Nat}(B:AOk φ g)(F:NewFr c scope nm lc g env g')(S:Step [] [] g g')(hn:φ.n=n+1)(hf:A.frames=φ.A.frames)(hh:A.handled=φ.A.handled)(hd:A.depth≤φ.A.depth+1)(hu:A.units≤φ.A.units+1) :
  AOk (⟨A.deeper env,env::φ.l,n,φ.hd⟩:Fm) g':=by
 have B':=B.step S nofun
 refine ⟨Around.frames_deeper (hf.trans B.frames),fun e he=>?_,?_,?_,?_⟩
 ·rcases List.mem_cons.mp he with rfl | he
  ·obtain ⟨o,p3,p4⟩:=(F.fr.priv e.locals (.head _)).o
   exact ⟨_,o,by rw [F.fr.kind];nofun,F.L,(F.fr.priv e.locals (.head _)).p,p3,p4⟩
  ·exact B'.frs e he
 ·have h:=B.depth;rw [hn] at h;exact deep_lt hd (by decide) h
 ·have h:=B.units;rw [hn] at h;exact deep_lt hu (by decide) h
 ·have h:=B'.hnd
  cases q:φ.hd with
  | false=>rw [q] at h;exact hh.trans h
  | true=>rw [q] at h;obtain ⟨e,o,vs,h1,h2⟩:=h;exact ⟨e,o,vs,hh.trans h1,h2⟩
end
end Mine
end
section
namespace Mine
open PySem PySem.W PySem.Calls PyProof.Rows PySem.SeqAt
section
variable {c:Wo}{nm:Nms}{g g' g₀:Sg}{lc:Loc}{f:Addr}{ps:List Str}{body:List Stmt}{scope:Scope}{fo:Obj}{fd:FuncData}{l:List Env}{X:List Addr}{φ:Fm}{n:Nat}{Q:Po MV}{E:Hp→Prop}{m:Cs}{cl:Bool→(Hp→Prop)→Addr→List MV→Po MV→Hp→Prop}
theorem Step.leave {env:Env}{L:Addr}(hL:env.frame=some L)(hn:g.at L=none)(hX:∀a∈X,g.at a=none)(S:Step (env::l) X g g'):Step l [] g g':={S with
 keep:=fun a o e n _=>(S.keep a o e n fun q=>nomatch (hX a q).symm.trans e).imp fun sl q=>⟨q.1,fun w=>q.2 fun ⟨env',he,hf⟩=>by
  rcases List.mem_cons.mp he with rfl | he
  ·cases hL.symm.trans hf;cases hn.symm.trans e
  ·exact w ⟨env',he,hf⟩⟩}
theorem suite_x {A:Around}{env:Env}{Mo:Model}{Ev:Value}{s:Shared}(hfr:A.frames=some (env::φ.l))(F:NewFr c scope nm lc g env g')(R:SR c g)(R':SR c g')(S:Step [] [] g g')(q:XE c ⟨A,env::φ.l,privOf env,Fl1 env.locals⟩ g' E Ev s) :
  wpAny Mo A (leaving env Ev) (fun _ s''=>XE c φ.x g E Ev s'') (fun e s'=>XE c φ.x g E e s') s:=
 lefts hfr F.L R' q fun h' q=>by
  obtain ⟨g'',e,R'',S'',x⟩:=q.xsince (φ:=⟨A,env::φ.l,privOf env,flown⟩) (S.weaken nofun) R R'
  exact ⟨g'',e,R'',S''.leave F.L (F.fresh _ (.head _)) F.fresh,fun e he=>x.frs e (.tail _ he),x.fl,x.E⟩
noncomputable def Binds (c:Wo)(fd:FuncData)(ps:List Str):Prop:=∀(Vs:List Value)(s:Shared),(∀a o,c.G.get? a=some o→s.heap.get? a=some o)→Vs.length=ps.length→BindsTo s fd ⟨Vs,[]⟩ (ps.zip Vs)
theorem SR.up (R:SR c g):∀a o,c.G.get? a=some o→g.at a=some o:=fun a o e=>R.z a o (R.base a o e)
theorem sim_fn {k:Nat}{vs:List MV}{Vs:List Value}(B:Bs c)(C:CallOk c n cl)(hn:φ.n=n+1)(Kf:FnOk c f ps body scope nm fo fd)(hb:Binds c fd ps)(hB:∀φ':Fr,φ'.L=φ'.env.locals→φ'.l=φ'.env::φ.l→∀K N lc g,KS c φ' K→Here c φ' nm lc g→m K N lc g.H→Sm c (φ'.x φ'.X) (execs body φ'.env) g (SN c φ' nm K N) K.E)
  (hv:VRs c g.m vs Vs) (hl:vs.length=ps.length) (ok:AOk φ g) (q:m ⟨cl,E,φ.hd,Q,fun _ _=>False⟩ (fun _=>Q .none) (vs.map some ++ List.replicate k none) g.H):Sm c φ.x (call (.ref f) Vs) g (VN c Q) E:=fun R=>by
 have hdep:=ok.depth
 have hlen:ps.length=Vs.length:=hl.symm.trans hv.length
 refine wpAny_call (codeAny_call_function (by have e:φ.x.A.depth=φ.A.depth:=rfl;omega) (R.up _ _ Kf.get) Kf.dat (by rw [Kf.scp];exact Kf.sc.co) (by rw [Kf.scp];exact Kf.sc.gen) Kf.body (Kf.code.keeps R.up) (hb Vs _ R.up hlen.symm _ _ _ _ ?_))
 rw [Kf.clo]
 refine wpAny_newFunctionEnv_cells (by rw [Kf.scp];exact Kf.sc.kind) (fun y hy=>?_) fun env he s' x=>?_
 ·rw [Kf.scp]
  exact (Kf.sc.par (by rw [← zip_names hlen];exact List.mem_map.mpr ⟨y,hy,rfl⟩)).imp id fun q=>⟨q,cellsFrom_some scope.names _ [] (.inl q)⟩
 ·obtain ⟨h',tk,rfl⟩:=x.toInCall.same
  have F:=call_fr (lc:=vs.map some ++ List.replicate k none) Kf R (by rw [zip_names hlen];exact Kf.sc.pnd) (fun i x k v hi hv'=>args_at hv hl.symm Kf.sc.fst hi hv') he x
  have S:Step [] [] g (g.on h' tk):= .of_ext F.keep
  have R':SR c (g.on h' tk):=R.of_ext F.keep
  have ok':=deeper_ok (A:=φ.A) ok F S hn rfl rfl (Nat.le_succ _) (Nat.le_succ _)
  refine ⟨(B.wd.nolimit.keeps R.up).keeps F.keep,codeAny_func ?_⟩
  refine wpAny_mono (hB ⟨⟨φ.A.deeper env,env::φ.l,n,φ.hd⟩,env,env.locals⟩ rfl rfl ⟨cl,E,φ.hd,Q,fun _ _=>False⟩ (fun _=>Q .none) _ (g.on h' tk) ⟨⟨B,C,rfl⟩,⟨_,rfl⟩,F.L⟩ ⟨F.fr,ok'⟩ q R') (fun fl s'' n=>?_) fun Ev s'' q=>?_
  ·obtain ⟨g₂,rfl,R₂,S₂,n⟩:=n
   have S₃:Step [] [] g g₂:=S.after R R' S₂ F.fresh
   cases fl with
   | next=>obtain ⟨lc',_,q⟩:=n;exact ⟨g₂,rfl,R₂,S₃, .none,rfl,q⟩
   | brk=>obtain ⟨_,_,q⟩:=n;exact q.elim
   | cont=>exact n.elim
   | ret V=>exact ⟨g₂,rfl,R₂,S₃,n⟩
  ·exact suite_x (A:=φ.A.deeper env) ok'.frames F R R' S q
end
end Mine
end
section
namespace Mine
open PySem PySem.W PySem.Calls PyProof.Rows PySem.SeqAt
structure PlainCls (K:Frag)(c i:Addr)(names:List Str):Prop where
 makes:makesIn K c=true
 init:findIn K (.ref c) "__init__"=some (some (.ref i))
 fn:typeIn K (.ref i) =some (.type "function")
 set:findIn K (.ref c) "__setattr__"=some (some (.builtin "object.__setattr__"))
 over:plainOver K c=true
 dict:(clsIn K c).any (·.hasDict) =true
 free:∀f∈names,takerIn K c f=some none
theorem putL_new {name:Str}{h:Int}{k v:Value}:∀ {es:List DictEntry},(∀e∈es,e.key.isStr name=false)→putL name h k v es=es ++ [⟨h,k,v⟩]
 | [],_=>rfl
 | e::r,hn=>by
  unfold putL
  rw [hn e (.head _),putL_new fun e he=>hn e (.tail _ he)]
  rfl
theorem getL_new {name:Str}{es:List DictEntry}(hn:∀e∈es,e.key.isStr name=false)(hr:∀e∈es,e.refKey=false):getL name es=some none:=by
 unfold getL
 have h1:es.find? (·.key.isStr name) =none:=List.find?_eq_none.mpr fun e he=>by rw [hn e he];exact Bool.false_ne_true
 have h2:es.any (·.refKey) =false:=List.any_eq_false.mpr fun e he=>by rw [hr e he];exact Bool.false_ne_true
 rw [h1]
 dsimp only
 rw [h2];rfl
theorem own_set {prog:Program}{w:World}{K:Frag}{s:Shared}{A:Around}{E:Value→Shared→Prop}{x d c L:Addr}{f:Str}{v:Value}{es:List DictEntry}{k:Nat}{ia:Addr}{names:List Str}{mL:Str→Option Value}{Q:Unit→Shared→Prop}(X₀:K.In s.heap)(Pc:PlainCls K c ia names)(hf:f∈names)(hns:s.heap.Ns L mL)(hx:s.heap.get? x=some (instObj c d))(hd:s.heap.get? d=some (dictOf es k))
  (hLd:d≠L) (hn:∀e∈es,e.key.isStr f=false) (hr:∀e∈es,e.refKey=false) (hz:es.length < 1000)
  (hQ:∀h' t t0,h'.Ns L mL→(∀b o,b≠L→b≠d→s.heap.get? b=some o→h'.get? b=some o)→h'.get? d=some (dictOf (es ++ [⟨PyData.keyHash w.params f, .str f t0,v⟩]) (k+1))→Q () {s with heap:=h',toks:=t}) :
  wpAny (model prog w) A (setAttr (.ref x) f v) Q E s:=by
 have I:InstAt s.heap x (instObj c d) c (some (dictOf es k)):=instAt hx hd
 refine set_plain X₀ I Pc.set ?_
 let pick:Addr→Option (Addr × Obj):=fun a=>if a=L∨a=d then none else (s.heap.get? a).map fun o=>(a,o)
 have pk:∀p,p∈(List.range s.heap.objs.size).filterMap pick→p.1≠L∧p.1≠d∧s.heap.get? p.1=some p.2:=fun p hp=>by
  obtain ⟨a,_,ha⟩:=List.mem_filterMap.mp hp
  simp only [pick] at ha
  split at ha
  ·cases ha
  ·rename_i hq
   obtain ⟨o,ho,rfl⟩:=Option.map_eq_some_iff.mp ha
   exact ⟨fun q=>hq (.inl q),fun q=>hq (.inr q),ho⟩
 have pin:∀b o,b≠L→b≠d→s.heap.get? b=some o→(b,o)∈(List.range s.heap.objs.size).filterMap pick:=fun b o h1 h2 e=>
  List.mem_filterMap.mpr ⟨b,List.mem_range.mpr (Heap.lt_size e),by simp only [pick];rw [if_neg (by simp [h1,h2]),e];rfl⟩
 have e0:∀b,({}:Heap).get? b=none:=fun b=>Heap.get?_none_of_le (Nat.zero_le _)
 have F:PyProof.Rows.Fr {} L s.heap mL:=⟨hns,fun b o e=>(by rw [e0] at e;cases e),Nat.zero_le _⟩
 have N:News {} L s.heap ((List.range s.heap.objs.size).filterMap pick ++ (d,dictOf es k) :: []):=fun p hp=>by
  rcases List.mem_append.mp hp with hp | hp
  ·obtain ⟨h1,_,h3⟩:=pk p hp
   exact ⟨h3,h1,e0 _⟩
  ·simp only [List.mem_cons,List.not_mem_nil,or_false] at hp
   rw [hp];exact ⟨hd,hLd,e0 _⟩
 have ep:=putName_dict f (PyData.keyHash w.params f) (.str f (s.toks+1)) v es k
 rw [putL_new hn] at ep
 have e2:putN f es k=k+1:=by
  unfold putN
  rw [if_neg]
  simp only [List.any_eq_true,not_exists,not_and]
  intro e he q
  rw [hn e he] at q;cases q
 rw [e2] at ep
 refine osa_dict (s:={s with toks:=s.toks+1}) (h₀:={}) (L:=L) (m:=mL) (pre:=(List.range s.heap.objs.size).filterMap pick) (post:=[]) F N X₀ I rfl Pc.over (Pc.free f hf) Pc.dict (by rw [lookIn_dict,getL_new hn hr];rfl) (fun p hp=>(pk p hp).2.1) (fun p hp=>nomatch hp) ep rfl (by rw [List.length_append,List.length_singleton];omega) fun h' F' N'=>?_
 refine hQ h' _ (s.toks+1) F'.ns (fun b o h1 h2 e=>?_) ?_
 ·exact (N' (b,o) (List.mem_append_left _ (pin b o h1 h2 e))).1
 ·exact (N' (d,_) (List.mem_append_right _ (.head _))).1
theorem keyHash_is (w:World)(f:Str):PyData.keyHash w.params f=hashStr w f:=by
 first | rfl | (unfold PyData.keyHash hashStr;rfl)
structure Making (c:Wo)(k x d L:Addr)(slf:Str)(fs:List MV)(ns:List Str)(g:Sg):Prop where
 inst:g.at x=some (instObj k d)
 loc:∃m,g.s.heap.Ns L m∧m slf=some (.ref x)
 dict:∃es kvs n,g.at d=some (dictOf es n)∧Pairs c.kd es kvs∧KeysOf c.kd es.toArray∧FsR c g.m fs ns kvs
 px:Priv g x
 pd:Priv g d
 ne:x≠d∧x≠L∧d≠L
section
variable {c:Wo}{nm:Nms}{g g':Sg}{lc:Loc}{φ:Fr}{K:Kx}{k x d i:Addr}{slf f:Str}{fs:List MV}{ns:List Str}{m:Mp}{e:Expr}
theorem FsR.up {kvs:KVs}{m':Mp}(h:m.le m')(r:FsR c m fs ns kvs):FsR c m' fs ns kvs:=by
 induction fs generalizing ns kvs with
 | nil=>exact r
 | cons y ys ih=>obtain ⟨n,ns',v,r',e1,e2,a,b⟩:=r;exact ⟨n,ns',v,r',e1,e2,a.up h,ih b⟩
theorem FsR.keys {kvs:KVs}(r:FsR c m fs ns kvs):kvs.map (·.1) =ns.map Sum.inr:=by
 induction fs generalizing ns kvs with
 | nil=>rw [r.1,r.2];rfl
 | cons y ys ih=>obtain ⟨n,ns',v,r',e1,e2,a,b⟩:=r;subst e1 e2;exact congrArg (_:: ·) (ih b)
theorem FsR.snoc {kvs:KVs}{v:MV}{V:Value}(h:VR c m v V)(r:FsR c m fs ns kvs):FsR c m (fs ++ [v]) (ns ++ [f]) (kvs ++ [(.inr f,V)]):=by
 induction fs generalizing ns kvs with
 | nil=>rw [r.1,r.2];exact ⟨f,[],V,[],rfl,rfl,h,rfl,rfl⟩
 | cons y ys ih=>obtain ⟨n,ns',v,r',e1,e2,a,b⟩:=r;subst e1 e2;exact ⟨n,ns' ++ [f],v,_,rfl,rfl,a,ih b⟩
theorem pairs_snoc {es:List DictEntry}{kvs:KVs}{e:DictEntry}{kv:Key × Value}(h:Pairs c.kd es kvs)(h1:c.kd.is kv.1 e.key=true)(h2:e.val=kv.2):Pairs c.kd (es ++ [e]) (kvs ++ [kv]):=by
 induction h with
 | nil=>exact .cons h1 h2 .nil
 | cons a b _ ih=>exact .cons a b ih
theorem pairs_names {es:List DictEntry}{kvs:KVs}(h:Pairs c.kd es kvs):es.length=kvs.length∧∀e∈es,∃k∈kvs.map (·.1),c.kd.is k e.key=true:=by
 induction h with
 | nil=>exact ⟨rfl,fun e he=>absurd he List.not_mem_nil⟩
 | @cons e kv es kvs a b _ ih=>exact ⟨congrArg (· +1) ih.1,fun e' he=>(List.mem_cons.mp he).elim (fun q=>⟨kv.1, .head _,by rw [q];exact a⟩) fun he=>(ih.2 e' he).imp fun k q=>⟨.tail _ q.1,q.2⟩⟩
theorem Making.step {L:Addr}(M:Making c k x d L slf fs ns g)(S:Step [] [] g g')(hL:Priv g L):Making c k x d L slf fs ns g':=
 ⟨(S.kp M.px nofun M.inst).eq,M.loc.imp fun m q=>⟨q.1.imp fun o q=>q.imp fun es q=>q.imp fun ep q=>⟨(S.kp hL nofun q.1).eq,q.2⟩,q.2⟩,M.dict.imp fun es q=>q.imp fun kvs q=>q.imp fun n q=>⟨(S.kp M.pd nofun q.1).eq,q.2.1,q.2.2.1,q.2.2.2.up S.up⟩,S.priv M.px M.inst,M.dict.elim fun es q=>q.elim fun kvs q=>q.elim fun n q=>S.priv M.pd q.1,M.ne⟩
end
end Mine
end
section
namespace Mine
open PySem PySem.W PySem.Calls PyProof.Rows PySem.SeqAt
structure RowN (c:Wo)(φ:Fr)(nm:Nms)(lc:Loc)(k x d:Addr)(slf:Str)(fs:List MV)(ns:List Str)(Q:Hp→Prop)(g:Sg):Prop where
 fr:FR c φ.env nm lc g
 mk':Making c k x d φ.env.locals slf fs ns g
 q:Q g.H
structure RowAt (c:Wo)(φ:Fr)(k x d i:Addr)(slf:Str):Prop where
 cls:PlainCls c.K k i (namesOf k)
 self:φ.env.kindOf slf=some .local
 dbg:(slf == ("__debug__":Str)) =false
 x:x∉φ.X
 d:d∉φ.X
section
variable {c:Wo}{nm:Nms}{g g':Sg}{lc:Loc}{φ:Fr}{K:Kx}{k x d i:Addr}{slf f:Str}{fs:List MV}{ns:List Str}{mm:Mp}{e:Expr}{m:Cd MV}{p ap pos:Pos}{body:List Stmt}
theorem ns_same {h:Heap}{L:Addr}{m m':Str→Option Value}(a:h.Ns L m)(b:h.Ns L m'):m=m':=by
 obtain ⟨o1,es1,ep1,g1,g2,g3,g4⟩:=a
 obtain ⟨o2,es2,ep2,k1,k2,k3,k4⟩:=b
 cases g1.symm.trans k1;cases g2.symm.trans k2
 funext y;rw [← g4,← k4]
theorem sim_row {Q:Po MV}(hsw:NoSwap (.Attribute (.Name slf p) f ap) e)(hf:f∈namesOf k)(he:EOk c nm e m)(Z:RowAt c φ k x d i slf)(W:KOk c φ K)(h:Here c φ nm lc g)(M:Making c k x d φ.env.locals slf fs ns g)(hn:f∉ns)(hl:ns.length < 1000)(q:m K.quiet lc Q g.H) :
  Sm c (φ.x (d::φ.X)) (exec (.Assign [.Attribute (.Name slf p) f ap] e pos) φ.env) g (fun fl g'=>fl= .next∧∃v,RowN c φ nm lc k x d slf (fs ++ [v]) (ns ++ [f]) (Q v) g') noE:=by
 rw [exec_Assign]
 refine .standAt ?_
 rw [hsw.sole,pure_bind,if_neg Bool.false_ne_true]
 refine Sm.next (he φ K.quiet lc _ g W.quiet h q) fun V g₁ R₁ S₁ n=>?_
 obtain ⟨v,hv,q⟩:=n
 have h₁:=h.step S₁
 have M₁:=M.step S₁ (h.fr.priv _ (.head _)).p
 have pL₁:=h₁.fr.priv φ.env.locals (.head _)
 obtain ⟨mm,hns,hm⟩:=M₁.loc
 obtain ⟨es,kvs,t,d1,d2,d3,d4⟩:=M₁.dict
 show Sm c _ (pure none >>= fun sw=>assignStores φ.env V sw [assign (.Attribute (.Name slf p) f ap) φ.env]) _ _ _
 rw [pure_bind]
 show Sm c _ (assign (.Attribute (.Name slf p) f ap) φ.env V >>= fun _=>pure Flow.next) _ _ _
 rw [arm_assign_Attribute]
 have ent:∀e∈es,∃y t,e.key= .str y t∧y≠f:=fun e he=>by
  obtain ⟨k',hk,his⟩:=(pairs_names d2).2 e he
  rw [d4.keys] at hk
  obtain ⟨y,hy,rfl⟩:=List.mem_map.mp hk
  obtain ⟨t,ht⟩:=keyIs_str his
  exact ⟨y,t,ht,fun q=>hn (q▸hy)⟩
 intro R
 refine wpAny_bind (wpAny_bind (wpAny_holding (wpAny_Name (wpAny_loadName_local h₁.fr.kind Z.self hns hm ?_) Z.dbg)))
 refine wpAny_bind (wpAny_standAt (wpAny_bind (wpAny_holding (own_set (names:=namesOf k) (ia:=i) (K:=c.K) (c:=k) (d:=d) (es:=es) (k:=t) (L:=φ.env.locals) (mL:=mm) (W.In R₁) Z.cls hf hns M₁.inst d1 M₁.ne.2.2 (fun e he=>?_) (fun e he=>?_) ?_ fun h' tk t0 hns' hk hd'=>?_))))
 ·obtain ⟨y,t,e1,e2⟩:=ent e he
  rw [e1]
  exact beq_eq_false_iff_ne.mpr e2
 ·obtain ⟨y,t,e1,e2⟩:=ent e he
  unfold DictEntry.refKey;rw [e1]
 ·rw [(pairs_names d2).1,← List.length_map (f:=(·.1)),d4.keys,List.length_map];exact hl
 ·have hLl:∃o,h'.get? φ.env.locals=some o∧∀vs,o.data≠ .fields vs:=hns'.imp fun o q=>q.elim fun _ q=>q.elim fun _ q=>⟨q.1,fun vs e=>nomatch q.2.1.symm.trans e⟩
  have nc:∀a∈φ.env.cells.map (·.2),∀o,g₁.at a=some o→h'.get? a=some o:=fun a ha o e=>hk a o (fun q=>h₁.fr.apart.1 (q▸ha)) (fun q=>Z.d (q▸ .tail _ ha)) e
  have S2:Step [] (d::φ.X) g₁ (g₁.on h' tk):= .of_but (fun b o e hb=>hk b o (fun q=>hb (q▸ .tail _ (.head _))) (fun q=>hb (q▸ .head _)) e) fun b hb o e=>(List.mem_cons.mp hb).elim (fun q=>by rw [q];exact ⟨_,hd'⟩) fun hb=>(List.mem_cons.mp hb).elim (fun q=>by rw [q];exact hLl.imp fun _ h=>h.1) fun hb=>⟨o,nc b hb o e⟩
  have R2:SR c (g₁.on h' tk):=R₁.of_but (X:=[φ.env.locals,d]) (fun b o e hb=>hk b o (fun q=>hb (q▸ .head _)) (fun q=>hb (q▸ .tail _ (.head _))) e) fun a ha=>(List.mem_cons.mp ha).elim (fun q=>by rw [q];exact pL₁.p) fun ha=>by rw [List.mem_singleton.mp ha];exact M₁.pd
  refine wpAny_release' (wpAny_pure ⟨g₁.on h' tk,rfl,R2,S2,rfl,v,{h₁.fr with ns:=?_,cell:=fun y hy=>?_,priv:=fun a ha=>⟨(h₁.fr.priv a ha).p.rec fun a b=>⟨a,b⟩,?_⟩},
   ⟨hk _ _ M₁.ne.2.1 M₁.ne.1 M₁.inst,⟨mm,hns',hm⟩,⟨_,_,_,hd',pairs_snoc (kv:=(.inr f,V)) d2 (is_str f t0) rfl,fun e he=>?_,d4.snoc hv⟩,M₁.px.rec fun a b=>⟨a,b⟩,M₁.pd.rec fun a b=>⟨a,b⟩,M₁.ne⟩,q⟩)
  ·obtain ⟨m',hm',hmv⟩:=h₁.fr.ns
   obtain rfl:=ns_same hm' hns
   exact ⟨m',hns',hmv⟩
  ·obtain ⟨a,v0,c1,⟨o,c2,c3⟩,c4⟩:=h₁.fr.cell y hy
   exact ⟨a,v0,c1,⟨o,nc a (List.mem_map.mpr ⟨_,mem_of_lookup c1,rfl⟩) o c2,c3⟩,c4⟩
  ·exact (List.mem_cons.mp ha).elim (fun q=>by rw [q];exact hLl) fun ha'=>(h₁.fr.priv a ha).o.imp fun o q=>⟨nc a ha' o q.1,q.2⟩
  ·rcases List.mem_append.mp (List.mem_toArray.mp he) with he | he
   ·exact d3 e (List.mem_toArray.mpr he)
   ·rw [List.mem_singleton.mp he];exact ⟨.inr f,is_str f t0,keyHash_is c.w f⟩
noncomputable def RowsOk (c:Wo)(nm:Nms)(k:Addr)(slf:Str)(body:List Stmt)(ns:List Str)(ms:List (Cd MV)):Prop:=∀(φ:Fr)(K:Kx)(lc:Loc)(fs:List MV)(ns0:List Str)(Q:Po (List MV))(g:Sg)(x d i:Addr),RowAt c φ k x d i slf→KOk c φ K→Here c φ nm lc g→Making c k x d φ.env.locals slf fs ns0 g→(ns0 ++ ns).Nodup→ns0.length+ns.length≤1000→evs ms K.quiet lc Q g.H→
 Sm c (φ.x (d::φ.X)) (execs body φ.env) g (fun fl g'=>fl= .next∧∃vs,RowN c φ nm lc k x d slf (fs ++ vs) (ns0 ++ ns) (Q vs) g') noE
theorem RowsOk.nil:RowsOk c nm k slf [] [] []:=fun φ K lc fs ns0 Q g x d i Z W h M hn hl q=> .pure ⟨rfl,[],h.fr,by rw [List.append_nil,List.append_nil];exact M,q⟩
theorem RowsOk.cons {ms:List (Cd MV)}(hsw:NoSwap (.Attribute (.Name slf p) f ap) e)(hf:f∈namesOf k)(he:EOk c nm e m)(hs:RowsOk c nm k slf body ns ms):RowsOk c nm k slf (.Assign [.Attribute (.Name slf p) f ap] e pos::body) (f::ns) (m::ms):=fun φ K lc fs ns0 Q g x d i Z W h M hn hl q=>by
 show Sm c _ (exec (.Assign [.Attribute (.Name slf p) f ap] e pos) φ.env >>= fun f=>match f with | .next=>execs body φ.env | f=>pure f) g _ _
 refine (sim_row hsw hf he Z W h M (fun q=>(List.nodup_append.mp hn).2.2 f q f (.head _) rfl) (Nat.lt_of_lt_of_le (Nat.lt_add_of_pos_right (Nat.succ_pos _)) hl) q).bind fun fl g₁ R₁ S₁ n=>?_
 obtain ⟨rfl,v,n⟩:=n
 have h₁:Here c φ nm lc g₁:=⟨n.fr,h.ok.step S₁ fun a ha o ho vs=>by
  rcases List.mem_cons.mp ha with rfl | ha
  ·obtain ⟨es,kvs,t,d1,_⟩:=n.mk'.dict
   cases ho.symm.trans d1;nofun
  ·obtain ⟨o',h1,h2⟩:=(n.fr.priv a ha).o
   cases ho.symm.trans h1;exact h2 vs⟩
 have e1:ns0 ++ f::ns= (ns0 ++ [f]) ++ ns:=(List.append_assoc ns0 [f] ns).symm
 rw [e1] at hn ⊢
 refine (hs φ K lc (fs ++ [v]) (ns0 ++ [f]) _ g₁ x d i Z W h₁ n.mk' hn (by rw [List.length_append,Nat.add_assoc];rw [List.length_cons] at hl;rw [Nat.add_comm [f].length];exact hl) n.q).mono fun fl g₂ _ _ n=>⟨n.1,n.2.elim fun vs n=>⟨v::vs,by rw [show fs ++ v::vs= (fs ++ [v]) ++ vs from (List.append_assoc fs [v] vs).symm];exact n⟩⟩
end
end Mine
end
section
namespace Mine
open PySem PySem.W PySem.Calls PyProof.Rows PySem.SeqAt
structure ClsOk (c:Wo)(k i:Addr)(slf:Str)(ps:List Str)(ds:List MV)(dV:List Value)(body:List Stmt)(scope:Scope)(nm:Nms)(fo:Obj)(fd:FuncData):Prop where
 cls:PlainCls c.K k i (namesOf k)
 fn:FnOk c i (slf::ps) body scope nm fo fd
 dbg:(slf == ("__debug__":Str)) =false
 self:scope.names.lookup slf=some .local
 dv:VRs c ⟨c.G.get?,[]⟩ ds dV
 bind:∀(V:Value) (Vs:List Value) (s:Shared),(∀a o,c.G.get? a=some o→s.heap.get? a=some o)→Vs.length≤ps.length→ps.length≤Vs.length+dV.length→BindsTo s fd ⟨V::Vs,[]⟩ ((slf,V) ::ps.zip (Vs ++ dV.drop (Vs.length+dV.length - ps.length)))
 nd:(namesOf k).Nodup
 len:(namesOf k).length≤1000
 own:ownC k=true
section
variable {c:Wo}{nm:Nms}{g g' g₀:Sg}{lc:Loc}{k i:Addr}{slf:Str}{ps:List Str}{body:List Stmt}{scope:Scope}{fo:Obj}{fd:FuncData}{ds:List MV}{dV:List Value}{φ:Fm}{n:Nat}{Q:Po MV}{E:Hp→Prop}{ms:List (Cd MV)}{cl:Bool→(Hp→Prop)→Addr→List MV→Po MV→Hp→Prop}
theorem VRs.drop {m:Mp}{xs:List MV}(n:Nat):∀ {vs:List Value},VRs c m xs vs→VRs c m (xs.drop n) (vs.drop n):=by
 induction n generalizing xs with
 | zero=>exact fun h=>h
 | succ n ih=>
  cases xs with
  | nil=>intro vs e;cases e;exact rfl
  | cons x xs=>intro vs ⟨w,r,e,a,b⟩;subst e;exact ih b
theorem sim_cls {vs:List MV}{Vs:List Value}(B:Bs c)(C:CallOk c n cl)(hn:φ.n=n+1)(Z:ClsOk c k i slf ps ds dV body scope nm fo fd)(hr:RowsOk c nm k slf body (namesOf k) ms)(hv:VRs c g.m vs Vs)(l1:vs.length≤ps.length)(l2:ps.length≤vs.length+ds.length)(ok:AOk φ g)
  (q:evs ms ⟨cl,noE,φ.hd,fun _ _=>False,fun _ _=>False⟩ (none::(vs ++ ds.drop (vs.length+ds.length - ps.length)).map some) (fun fs=>Q (.inst k fs)) g.H):Sm c φ.x (call (.ref k) Vs) g (VN c Q) E:=fun R=>by
 have In:∀ {g:Sg},SR c g→c.K.In g.s.heap:=fun R a o e=>R.z a o (R.base a o (B.kin a o e))
 have X₀:=In R
 have hdep:=ok.depth
 have Y:=makes_of (M:=model c.prog c.w) X₀ Z.cls.makes
 refine wpAny_call (make_core (h:=g.s.heap) (g:=g.s.gens) (d:=g.s.drawn) (t:=g.s.toks) (os:=g.s.os) Y (looks_findIn X₀ Z.cls.init) (fun v=>bind_fn X₀ v Z.cls.fn) (.inl rfl) ?_)
 have keep1:∀b o,g.at b=some o→((g.s.heap.push emptyDict).push (instObj k g.s.heap.objs.size)).get? b=some o:=fun b o e=>Heap.get?_push_of_some _ (Heap.get?_push_of_some _ e)
 have hd0:((g.s.heap.push emptyDict).push (instObj k g.s.heap.objs.size)).get? g.s.heap.objs.size=some emptyDict:=Heap.get?_push_of_some _ (Heap.get?_push_size _ rfl)
 have hx0:((g.s.heap.push emptyDict).push (instObj k g.s.heap.objs.size)).get? (g.s.heap.objs.size+1) =some (instObj k g.s.heap.objs.size):=by rw [← Heap.size_push g.s.heap emptyDict];exact Heap.get?_push_size _ rfl
 have nd:g.at g.s.heap.objs.size=none:=push_none _
 have nx:g.at (g.s.heap.objs.size+1) =none:=Heap.get?_none_of_le (Nat.le_succ _)
 have hxd:g.s.heap.objs.size+1≠g.s.heap.objs.size:=Nat.succ_ne_self _
 generalize (g.s.heap.push emptyDict).push (instObj k g.s.heap.objs.size) =h1 at *
 generalize g.s.heap.objs.size+1=x at *
 generalize g.s.heap.objs.size=d at *
 have S1:Step [] [] g (g.on h1 g.s.toks):= .of_ext keep1
 have R1:SR c (g.on h1 g.s.toks):=R.of_ext keep1
 have hlv:=hv.length
 have hld:=Z.dv.length
 have up1:=R1.up
 refine codeAny_call_function (A:=φ.A.under (.builtin "type.__call__" ⟨.ref k::Vs,[]⟩)) (by have h:=ok.depth;rw [hn] at h;exact Nat.lt_of_le_of_lt (Nat.le_trans (Nat.add_le_add_left (Nat.le_add_left 1 (4 * n+3)) _) (Nat.le_add_right _ 10)) h) (up1 _ _ Z.fn.get) Z.fn.dat (by rw [Z.fn.scp];exact Z.fn.sc.co) (by rw [Z.fn.scp];exact Z.fn.sc.gen) Z.fn.body (Z.fn.code.keeps up1) (Z.bind _ Vs _ up1 (hlv▸l1) (by rw [← hlv,← hld];exact l2) _ _ _ _ ?_)
 rw [Z.fn.clo]
 have hal:ps.length= (vs ++ ds.drop (vs.length+ds.length - ps.length)).length:=by rw [List.length_append,List.length_drop];exact ((Nat.add_sub_assoc (Nat.sub_le_iff_le_add.mpr (Nat.add_comm _ _▸Nat.add_le_add_left l1 _)) _).symm.trans (Nat.sub_sub_self l2)).symm
 have hvv:VRs c g.m (vs ++ ds.drop (vs.length+ds.length - ps.length)) (Vs ++ dV.drop (Vs.length+dV.length - ps.length)):=by
  rw [← hlv,← hld]
  exact ((Z.dv.up ⟨R.base,List.nil_prefix⟩).drop _).append hv
 generalize vs ++ ds.drop (vs.length+ds.length - ps.length) =as at *
 generalize Vs ++ dV.drop (Vs.length+dV.length - ps.length) =As at *
 have hpar:((slf,Value.ref x) ::ps.zip As).map (·.1) =slf::ps:=congrArg (slf:: ·) (zip_names (hal.trans hvv.length))
 refine wpAny_newFunctionEnv_cells (by rw [Z.fn.scp];exact Z.fn.sc.kind) (fun y hy=>?_) fun env he s' xc=>?_
 ·rw [Z.fn.scp]
  exact (Z.fn.sc.par (by rw [← hpar];exact List.mem_map.mpr ⟨y,hy,rfl⟩)).imp id fun q=>⟨q,cellsFrom_some scope.names _ [] (.inl q)⟩
 ·obtain ⟨h',tk,rfl⟩:=xc.toInCall.same
  have hnds:(((slf,Value.ref x) ::ps.zip As).map (·.1)).Nodup:=by rw [hpar];exact Z.fn.sc.pnd
  have F:=call_fr (g:=g.on h1 g.s.toks) (lc:=none::as.map some) Z.fn R1 hnds (fun i y k v hi hv'=>by
   have ht:=Z.fn.sc.fst
   cases nm with
   | nil=>cases hi
   | cons n0 ns=>
    cases i with
    | zero=>cases hv'
    | succ i=>
     obtain ⟨V,a,b⟩:=args_at (k:=0) hvv hal (List.cons.inj ht).2 hi ((congrArg (fun l=>lat l i) (List.append_nil _)).trans hv')
     exact ⟨V, .tail _ a,b⟩) he xc
  have kslf:env.kindOf slf=some .local:=(F.kind slf).trans Z.self
  have S2:Step [] [] (g.on h1 g.s.toks) ((g.on h1 g.s.toks).on h' tk):= .of_ext F.keep
  have R2:SR c ((g.on h1 g.s.toks).on h' tk):=R1.of_ext F.keep
  have ok':=deeper_ok (A:=φ.A.under (.builtin "type.__call__" ⟨.ref k::Vs,[]⟩)) (ok.step S1 nofun) F S2 hn rfl rfl (Nat.le_refl _) (Nat.le_refl _)
  have hp1:x∉privOf env:=fun q=>nomatch (F.fresh x q).symm.trans hx0
  have hp2:d∉privOf env:=fun q=>nomatch (F.fresh d q).symm.trans hd0
  have M₀:Making c k x d env.locals slf [] [] ((g.on h1 g.s.toks).on h' tk):=
   ⟨F.keep _ _ hx0,⟨_,xc.toInCall.ns,bindL_at kslf _ _ hnds (.head _)⟩,⟨[],[],0,F.keep _ _ hd0, .nil,fun e he=>(nomatch List.mem_toArray.mp he),rfl,rfl⟩,(R.absent nx).rec fun a b=>⟨a,b⟩,(R.absent nd).rec fun a b=>⟨a,b⟩,hxd,fun q=>hp1 (q▸ .head _),fun q=>hp2 (q▸ .head _)⟩
  refine ⟨(B.wd.nolimit.keeps up1).keeps F.keep,codeAny_func ?_⟩
  refine wpAny_mono (hr ⟨⟨(φ.A.under (.builtin "type.__call__" ⟨.ref k::Vs,[]⟩)).deeper env,env::φ.l,n,φ.hd⟩,env,env.locals⟩ ⟨cl,noE,φ.hd,fun _ _=>False,fun _ _=>False⟩ _ [] [] _ _ x d i ⟨Z.cls,kslf,Z.dbg,hp1,hp2⟩ ⟨B,C,rfl⟩ ⟨F.fr,ok'⟩ M₀ Z.nd (by rw [List.length_nil,Nat.zero_add];exact Z.len) q R2) (fun fl s3 n=>?_) fun _ _ q=>q.rec fun _ _ _ _ x=>x.E.elim
  obtain ⟨g₃,rfl,R₃,S₃,rfl,fs,F₃,M,q⟩:=n
  obtain ⟨es,kvs,t,d1,d2,d3,d4⟩:=M.dict
  refine ⟨rfl,?_⟩
  have S4:Step [] [] g g₃:=(S1.trans R R1 S2).after R R2 S₃ fun a ha=>(List.mem_cons.mp ha).elim (fun e=>by rw [e];exact nd) fun ha=>S1.absent (F.fresh a ha)
  have hdict:(dictOf es t).IsDictOf c.kd kvs:=⟨es.toArray,t,⟨rfl,rfl,rfl⟩,rfl,d3,by simpa using d2,by rw [d4.keys];exact List.Pairwise.map Sum.inr (fun a b h q=>h (Sum.inr.inj q)) Z.nd⟩
  have px:Priv (g₃.fz d (dictOf es t)) x:=⟨(zput_ne hxd).trans M.px.z,M.px.r⟩
  have le1:=fz_priv (o:=dictOf es t) M.pd
  have le2:=fz_priv (o:=instObj k d) px
  exact ⟨(g₃.fz d (dictOf es t)).fz x (instObj k d),rfl,(R₃.frozen d1 M.pd).frozen M.inst px,(S4.frozen M.pd nd).frozen px nx, .inst k fs,⟨x,d,dictOf es t,kvs,rfl,Z.own,zput_at,(zput_ne hxd.symm).trans zput_at,hdict,d4.up (le1.trans le2)⟩,q⟩
end
end Mine
end
section
namespace Mine
open PySem PySem.W PySem.Calls PyProof.Rows PySem.SeqAt
section
variable {prog:Program}{w:World}{A:Around}{E:Value→Shared→Prop}{R:Result→Shared→Prop}{h:Heap}{g:Array GenState}{dr:Drawn}{t:Nat}{os:OsState}{s:Shared}{K:Frag}
variable {nm q:Str}{C N:Addr}{bs bm:List Value}{sn:List Str}{sub:List Value}{ab:Bool}{col:Option Bool}{dd:Option Addr}{k0 k1 k2 k3 k5:Option Value}{Bn newId inN:String}{bmN:List Value}
noncomputable abbrev bareExc (C T:Addr):Obj:={cls:= .ref C,data:= .fields #[.ref T, .none, .none, .none, .bool false, .none]}
theorem exc_allot (Fn:ExcBaseFacts Bn newId inN bmN)(hB:bm.contains (.type Bn) =true)(hA:bm.contains (.type "AttributeError") =false)(hN:bm.contains (.type "NameError") =false){rest:List Value}(hC:h.get? C=some (excClassObj nm q C N bs bm true sn sub ab col dd k0 k1 k2 k3 k5 newId))
  (hq:R (.ok (.ret (.ref (h.objs.size+1)))) ⟨(h.push {cls:= .type "tuple",data:= .seq rest.toArray}).push (bareExc C h.objs.size),g,dr,t,os⟩) (hrest:rest.length≤sizeLine) :
  codeAny (model prog w) A (.call (.builtin newId) ⟨.ref C::rest,[]⟩) R ⟨h,g,dr,t,os⟩:=by
 have hcB:(Value.ref C::bm).contains (.type Bn) =true:=by rw [List.contains_cons,hB,Bool.or_true]
 have hcA:(Value.ref C::bm).contains (.type "AttributeError") =false:=by rw [List.contains_cons,hA];rfl
 have hcN:(Value.ref C::bm).contains (.type "NameError") =false:=by rw [List.contains_cons,hN];rfl
 have hends:=Fn.ends
 refine codeAny_call_builtin_code (Code.quiet_builtin _ Fn.quiet) (wpAny_check_new_subU Fn hB (OwnTail.base (bmB:=bm)) hC ?_)
 refine PySem.codeAny_builtinAt Fn.entry ?_
 unfold Builtin.«BaseException.__new__»
 refine PySem.wpAt_bind ?_
 show PySem.wpAt _ _ _ (stack >>= _) _ _ _
 refine PySem.wpAt_bind (PySem.wpAt_stack fun p below=>PySem.wpAt_of_wpAny ?_)
 wp_walk
 refine PySem.wpAt_of_wpAny ?_
 rw [Fn.owner]
 repeat (first | with_reducible refine wpAny_madeHere_exc Fn.canon hC ?_ | with_reducible refine wpAny_loadPart_at hC ?_ | (with_reducible refine wpAny_isSubtype_exc hC ?_;first | rw [hcB] | rw [hcA] | rw [hcN]) | wp_step)
 show R _ _
 rw [Heap.size_push]
 exact hq
noncomputable def InitDone (Q E:Value→Shared→Prop)(e:Addr)(r:Result)(s':Shared):Prop:=match r with
 | .ok (.ret v)=>v= .none∧Q (.ref e) s'
 | .ok _=>False
 | .error x=>E x s'
theorem exc_call (Fn:ExcBaseFacts Bn newId inN bmN)(hB:bm.contains (.type Bn) =true)(hA:bm.contains (.type "AttributeError") =false)(hN:bm.contains (.type "NameError") =false){V:Value}{fI:Addr}{Q:Value→Shared→Prop}(X:K.In h)(hC:h.get? C=some (excClassObj nm q C N bs bm true sn sub ab col dd k0 k1 k2 k3 k5 newId))
  (hi:findIn K (.ref C) "__init__"=some (some (.ref fI))) (hf:typeIn K (.ref fI) =some (.type "function"))
  (hinit:codeAny (model prog w) (A.under (.builtin "type.__call__" ⟨[.ref C,V],[]⟩)) (.call (.ref fI) ⟨[.ref (h.objs.size+1),V],[]⟩) (InitDone Q E (h.objs.size+1)) ⟨(h.push {cls:= .type "tuple",data:= .seq [V].toArray}).push (bareExc C h.objs.size),g,dr,t,os⟩) :
  wpAny (model prog w) A (call (.ref C) [V]) Q E ⟨h,g,dr,t,os⟩:=by
 have f1:=tc_lookup
 have f2:=tc_bind (.ref C)
 have hT:(⟨h,g,dr,t,os⟩:Shared).TypeIs (.ref C) "type":=⟨_,hC,rfl⟩
 refine wpAny_call (codeAny_of_tree ?_)
 show wpAny _ _ (callAny (.ref C) _) _ _ _
 repeat (any_goals (first | assumption | with_reducible refine wpAny_loadPart_at hC ?_ | wp_step))
 refine ⟨rfl,codeAny_call_builtin_at (Code.quiet_builtin _ (by decide +kernel)) entry_typeCall (wpAny_check_type_call_sub hC ?_)⟩
 repeat (first | with_reducible refine wpAny_loadPart_at hC ?_ | with_reducible refine wpAny_madeBy_exc hC ?_ | wp_step)
 refine exc_allot Fn hB hA hN hC ?_ (by show 1≤sizeLine;rw [sizeLine_eq];decide)
 show wpAny _ _ _ _ _ _
 have k:∀b o,h.get? b=some o→((h.push {cls:= .type "tuple",data:= .seq [V].toArray}).push (bareExc C h.objs.size)).get? b=some o:=fun b o e=>Heap.get?_push_of_some _ (Heap.get?_push_of_some _ e)
 have hC₁:=k _ _ hC
 have X₁:K.In ((h.push {cls:= .type "tuple",data:= .seq [V].toArray}).push (bareExc C h.objs.size)):=fun a o e=>k _ _ (X a o e)
 have hget:((h.push {cls:= .type "tuple",data:= .seq [V].toArray}).push (bareExc C h.objs.size)).get? (h.objs.size+1) =some (bareExc C h.objs.size):=by
  rw [← Heap.size_push h {cls:= .type "tuple",data:= .seq [V].toArray}];exact Heap.get?_push_size _ rfl
 have hcC:(Value.ref C::bm).contains (.ref C) =true:=by simp
 unfold isInstance
 repeat (first | with_reducible refine wpAny_loadPart_at hget ?_ | wp_step)
 refine wpAny_isSubtype_exc hC₁ ?_
 rw [hcC]
 refine wpAny_ite_split (fun q=>absurd q (by decide)) fun _=>?_
 have I:InstAt ((h.push {cls:= .type "tuple",data:= .seq [V].toArray}).push (bareExc C h.objs.size)) (h.objs.size+1) (bareExc C h.objs.size) C none:=⟨hget,rfl,rfl,trivial⟩
 refine wpAny_bind (wpAny_holding (special_fn (s:=⟨(h.push {cls:= .type "tuple",data:= .seq [V].toArray}).push (bareExc C h.objs.size),g,dr,t,os⟩) X₁ I hi hf (wpAny_call (codeAny_mono hinit fun r s' z=>?_))))
 rcases r with e | (v | _ | _ | _) <;> first | exact z | exact z.elim | skip
 obtain ⟨rfl,z⟩:=z
 exact wpAny_pure z
end
section
open Builtin Builtin.ObjectAttr
variable {prog:Program}{w:World}{A:Around}{E:Value→Shared→Prop}{R:Result→Shared→Prop}{s:Shared}{K:Frag}{C x:Addr}{cd:ClassData}
structure ExcSt (K:Frag)(C:Addr)(names:List Str)(cd:ClassData):Prop where
 cls:clsIn K C=some cd
 obj:cd.mro.contains (.type "object") =true
 ne:cd.mro.isEmpty=false
 pass:∀self,refuseLoop self "__setattr__" cd.mro=pure ()
 dict:cd.hasDict=true
 set:findIn K (.ref C) "__setattr__"=some (some (.builtin "object.__setattr__"))
 free:∀f∈names,takerIn K C f=some none
theorem exc_osa {names:List Str}{ox:Obj}{od:Option Obj}{name:Str}{tk:Tok}{v:Value}(X:K.In s.heap)(S:ExcSt K C names cd)(hf:name∈names)(I:InstAt s.heap x ox C od)
  (h:∀b,wpAny (model prog w) A.in1 (storeInOwnDict (.ref x) (.ref C) (.str name tk) name v b)
   (fun fin s'=>match fin with | .done f=>R (.ok f) s' | .again c'=>c'.quiet=true∧codeAny (model prog w) A c' R s') (fun e s'=>R (.error e) s') s) :
  codeAny (model prog w) A (.call (.builtin "object.__setattr__") ⟨[.ref x, .str name tk,v],[]⟩) R s:=by
 have SF:=PySem.F.store_object
 have sub:Looks (model prog w) s.heap (isInstance (.ref x) (.type "object")) true:=I.type.andThen (looks_mroIn X (by unfold mroIn;rw [S.cls,Option.bind_some,if_neg (by rw [S.ne];decide),S.obj]))
 refine codeAny_call_builtin SF.slot.plain SF.entry (@check_slot (model prog w) _ _ s "object.__setattr__" "object" "__setattr__" (.ref x) [.str name tk,v] [] _ SF.kind SF.split sub (SF.args (.ref x) (.str name tk) v) ?_)
 obtain ⟨attr,ha,hr⟩:=Option.bind_eq_some_iff.mp (S.free name hf)
 have hm:Looks (model prog w) s.heap (mroOf (.ref C)) cd.mro:=(looks_clsIn X S.cls).andThen .now
 have L3:Looks (model prog w) s.heap (storeTaker? attr) none:=by
  cases attr with
  | none=>exact .now
  | some a=>
   obtain ⟨b,hb,hb2⟩:=Option.map_eq_some_iff.mp hr
   cases b with
   | true=>cases hb2
   | false=>exact (looks_takesIn X hb).andThen .now
 rw [osa_eq,refuse_eq]
 refine wpAny_bind (wpAny_bind (I.type.here (wpAny_bind (hm.here ?_))))
 rw [S.pass]
 refine wpAny_pure (wpAny_bind (I.type.here (wpAny_bind ((looks_findIn X ha).here (wpAny_bind (L3.here ?_))))))
 exact h _
theorem exc_set {names:List Str}{name:Str}{v:Value}{od:Option Addr}{vs:Array Value}{sl:Array (Option Value)}{mA:Str→Option Value}{Q:Unit→Shared→Prop}{ws:List Str}(X:K.In s.heap)(S:ExcSt K C names cd)(hf:name∈names)
  (hx:s.heap.get? x=some {cls:= .ref C,dict:=od,data:= .fields vs,slots:=sl}) (hd:match od with | none=>∀n,mA n=none | some dx=>dx≠x∧s.heap.Ns1 dx mA) (hw:PySem.Within mA ws) (hsz:ws.length≤1000)
  (hQ:∀h' tk dx,h'.get? x=some {cls:= .ref C,dict:=some dx,data:= .fields vs,slots:=sl}→dx≠x→h'.Ns1 dx (fun y=>if y=name then some v else mA y)→(∀d,od=some d→dx=d)→(od=none→s.heap.get? dx=none)→
   (∀b o,b≠x→(∀d,od=some d→b≠d)→s.heap.get? b=some o→h'.get? b=some o)→Q () {s with heap:=h',toks:=tk}) :
  wpAny (model prog w) A (setAttr (.ref x) name v) Q E s:=by
 have tail:∀(A':Around) (dx:Addr) (s₁:Shared) (m:Str→Option Value),s₁.heap.Ns1 dx m→(∃us,PySem.Within m us∧us.length≤1000)→
   (∀h',h'.Ns1 dx (fun y=>if y=name then some v else m y)→Heap.SameBut dx s₁.heap h'→Q () {s₁ with heap:=h',toks:=s₁.toks+1})→
   wpAny (model prog w) A' (storeInDict dx (.str name s.toks) name v) (fun fin s'=>match fin with
    | .done f=>(match (Except.ok f:Result) with | .ok (.ret _)=>Q () s' | .ok _=>False | .error e=>E e s')
    | .again c'=>c'.quiet=true∧codeAny (model prog w) A c' (fun r s'=>match r with | .ok (.ret _)=>Q () s' | .ok _=>False | .error e=>E e s') s') (fun e s'=>E e s') s₁:=by
  intro A' dx s₁ m hns ⟨us,hwi,hl⟩ hq
  unfold storeInDict newKeyGuard
  refine wpAny_bind (wpAny_pure (wpAny_bind (wpAny_nsSet1 hns fun h' hn' hs=>?_)))
  obtain ⟨oD,esD,epD,hoD,hdD,hcD⟩:=hn'.count (Within.cons name v hwi)
  refine wpAny_bind (wpAny_lookBehind hoD (by rw [hdD];exact pastItsLine_dict (Nat.le_trans hcD (by rw [List.length_cons,sizeLine_eq];omega))) ?_)
  exact wpAny_pure (hq h' hn' hs)
 cases od with
 | some dx=>
  obtain ⟨hne,hns⟩:=hd
  obtain ⟨oD,esD,epD,hoD,hdD,hkD⟩:=id hns
  have I:InstAt s.heap x {cls:= .ref C,dict:=some dx,data:= .fields vs,slots:=sl} C (some oD):=⟨hx,rfl,rfl,hoD⟩
  refine set_plain X I S.set (exc_osa (s:={s with toks:=s.toks+1}) X S hf I fun b=>?_)
  refine wpAny_bind (wpAny_pure (wpAny_bind (wpAny_bind (wpAny_loadPart hx (wpAny_bind (Looks.here (s:={s with toks:=s.toks+1}) (looks_clsIn X S.cls) ?_))))))
  rw [S.dict]
  refine wpAny_pure (a:=some dx) ?_
  refine tail _ dx _ mA hns ⟨ws,hw,hsz⟩ fun h' hn' hs=>?_
  exact hQ h' _ dx ((hs.2 x (Ne.symm hne)).trans hx) hne hn' (fun d e=>Option.some.inj e) (fun e=>nomatch e) fun b o hb hbd e=>(hs.2 b (hbd dx rfl)).trans e
 | none=>
  have I:InstAt s.heap x {cls:= .ref C,dict:=none,data:= .fields vs,slots:=sl} C none:=⟨hx,rfl,rfl,trivial⟩
  refine set_plain X I S.set (exc_osa (s:={s with toks:=s.toks+1}) X S hf I fun b=>?_)
  refine wpAny_bind (wpAny_pure (wpAny_bind (wpAny_bind (wpAny_loadPart hx (wpAny_bind (Looks.here (s:={s with toks:=s.toks+1}) (looks_clsIn X S.cls) ?_))))))
  rw [S.dict]
  have hx₁:=Heap.get?_push_of_some {cls:= .type "dict",data:= .dict #[]} hx
  have hxs:x≠s.heap.objs.size:=Nat.ne_of_lt (Heap.lt_size hx)
  show wpAny _ _ (PySem.alloc {cls:= .type "dict",data:= .dict #[]} >>= fun d=>update x (fun o=>{o with dict:=some d}) >>= fun _=>dictMade (.ref C) x d) _ _ _
  refine wpAny_bind (wpAny_alloc (wpAny_bind (wpAny_update hx₁ (wpAny_pure (a:=some s.heap.objs.size) ?_))))
  have hgd:((s.heap.push {cls:= .type "dict",data:= .dict #[]}).update x fun o=>{o with dict:=some s.heap.objs.size}).get? s.heap.objs.size=some {cls:= .type "dict",data:= .dict #[]}:=
   (Heap.get?_update_other _ _ hxs).trans (Heap.get?_push_size _ rfl)
  have hgx:((s.heap.push {cls:= .type "dict",data:= .dict #[]}).update x fun o=>{o with dict:=some s.heap.objs.size}).get? x=some {cls:= .ref C,dict:=some s.heap.objs.size,data:= .fields vs,slots:=sl}:=Heap.get?_update_self _ hx₁ rfl
  have hnd:((s.heap.push {cls:= .type "dict",data:= .dict #[]}).update x fun o=>{o with dict:=some s.heap.objs.size}).Ns s.heap.objs.size (fun _=>none):=⟨_,#[],_,hgd,rfl,fun e he=>absurd he (by simp),fun _=>rfl⟩
  refine tail _ s.heap.objs.size _ (fun _=>none) (Heap.Ns1.of_empty hnd) ⟨[],PySem.Within.nil,by decide⟩ fun h' hn' hs=>?_
  have e:(fun y=>if y=name then some v else none) = (fun y=>if y=name then some v else mA y):=by funext y;rw [hd y]
  exact hQ h' _ s.heap.objs.size ((hs.2 x hxs).trans hgx) (Ne.symm hxs) (e▸hn') (fun d e=>nomatch e) (fun _=>push_none _) fun b o hb _ eb=>
   (hs.2 b (Nat.ne_of_lt (Heap.lt_size eb))).trans ((Heap.get?_update_other _ _ (Ne.symm hb)).trans (Heap.get?_push_of_some _ eb))
end
section
variable {prog:Program}{w:World}{A:Around}{E:Value→Shared→Prop}{R:Result→Shared→Prop}{s:Shared}{K:Frag}{e:Addr}{cd:ClassData}
variable {nm q:Str}{C N:Addr}{bs bm:List Value}{sn:List Str}{sub:List Value}{ab:Bool}{col:Option Bool}{dd:Option Addr}{k0 k1 k2 k3 k5:Option Value}{newId:String}
noncomputable abbrev F0:=PySem.F.excBase_Exception
theorem exc_base_init {T:Addr}{V:Value}{Q:Value→Shared→Prop}(hB:bm.contains (.type "Exception") =true)(hC:s.heap.get? C=some (excClassObj nm q C N bs bm true sn sub ab col dd k0 k1 k2 k3 k5 newId))(he:s.heap.get? e=some (bareExc C T))
  (h:Q .none {s with heap:=(s.heap.push {cls:= .type "tuple",data:= .seq [V].toArray}).update e (Obj.mapFields (·.setIfInBounds 0 (.ref s.heap.objs.size)))}) :
  wpAny (model prog w) A (call (.builtin "Exception.__init__") [.ref e,V]) Q E s:=by
 have hcB:(Value.ref C::bm).contains (.type "Exception") =true:=by rw [List.contains_cons,hB,Bool.or_true]
 have hshort:=F0.noStar
 refine wpAny_call (codeAny_call_builtin F0.init.plain F0.initEntry ?_)
 have hcls:(bareExc C T).cls= .ref C:=rfl
 obtain ⟨hp,g,dr,tk,os⟩:=s
 simp only [checkBuiltinCall,F0.initKind,F0.initSplit,F0.initRow]
 repeat (first | (with_reducible refine wpAny_loadPart_at he ?_;rw [hcls]) | with_reducible refine wpAny_loadPart_at hC ?_ | (with_reducible refine wpAny_isSubtype_exc hC ?_;rw [hcB]) | wp_step)
 exact h
theorem boot_Exc:bootBuiltins ("Exception":Str) =some (.type "Exception"):=by kernel_rfl
theorem typeOf_Exc:typeOf (.type "Exception") =pure (.type "type"):=by kernel_rfl
theorem stub_Exc:Manifest.isStub "Exception"=false:=by decide +kernel
theorem cls_Exc (K:Frag):findCls K (.type "Exception") (.type "type") "__init__"=some (.val (.builtin "Exception.__init__")):=by kernel_rfl
theorem handed_Exc:handedIn (.builtin "Exception.__init__") =true:=by kernel_rfl
structure ExcIn (c:Wo)(C fI:Addr)(body:List Stmt)(scope:Scope)(nm:Nms)(fo:Obj)(fd:FuncData):Prop where
 init:findIn c.K (.ref C) "__init__"=some (some (.ref fI))
 typ:typeIn c.K (.ref fI) =some (.type "function")
 fn:FnOk c fI [("self":Str),"what","at"] body scope nm fo fd
 shape:∃q1 q2 q3 q4 q5 q6 q7 q8 q9 q10 q11 q12 q13 q14,body= [.Expr (.Call (.Attribute (.Name "Exception" q1) "__init__" q2) [.Name "self" q3, .Name "what" q4] [] q5) q6,
  .Assign [.Attribute (.Name "self" q7) "what" q8] (.Name "what" q9) q10, .Assign [.Attribute (.Name "self" q11) "at" q12] (.Name "at" q13) q14]∧(q2.endLine == q5.line) =true
 self:scope.names.lookup ("self":Str) =some .local
 what:scope.names.lookup ("what":Str) =some .local
 at_:scope.names.lookup ("at":Str) =some .local
 exc:scope.names.lookup ("Exception":Str) =some .globalImplicit
 bind:∃D0,∀V U s,(∀a o,c.G.get? a=some o→s.heap.get? a=some o)→BindsTo s fd ⟨[V,U],[]⟩ [(("self":Str),V),("what",U),("at",D0)]
theorem exc_make' {c:Wo}{nm':Nms}{fI:Addr}{body:List Stmt}{scope:Scope}{fo:Obj}{fd:FuncData}{u:Str}{t:Tok}{Q:Value→Shared→Prop}
  (W:Wd c) (hmg:c.mg ("Exception":Str) =none) (gin:c.K.In c.G) (hG:c.G.get? C=some (excClassObj nm q C N bs bm true sn sub ab col dd k0 k1 k2 k3 k5 "Exception.__new__")) (hB:bm.contains (.type "Exception") =true) (hA:bm.contains (.type "AttributeError") =false) (hN:bm.contains (.type "NameError") =false)
  (S:ExcSt c.K C ["what","at"] cd) (Ei:ExcIn c C fI body scope nm' fo fd) (hdep:A.depth+4 * 0+10 < recursionLimit) (hunits:A.units+40 * 0+400 < cLine) (up:∀a o,c.G.get? a=some o→s.heap.get? a=some o)
  (hQ:∀h' tk e o T,(∀b o,s.heap.get? b=some o→h'.get? b=some o)→s.heap.get? e=none→h'.get? e=some o→o.cls= .ref C→o.data= .fields #[T, .none, .none, .none, .bool false, .none]→Q (.ref e) {s with heap:=h',toks:=tk}) :
  wpAny (model c.prog c.w) A (call (.ref C) [.str u t]) Q E s:=by
 have X:c.K.In s.heap:=fun a o e=>up a o (gin a o e)
 obtain ⟨hp,g,dr,tk,os⟩:=s
 refine exc_call F0 hB hA hN X (up _ _ hG) Ei.init Ei.typ ?_
 generalize hA1:A.under (.builtin "type.__call__" ⟨[.ref C, .str u t],[]⟩) =A1
 have hd1:A1.depth=A.depth+1:=by rw [← hA1];rfl
 generalize hs1:(⟨(hp.push {cls:= .type "tuple",data:= .seq [Value.str u t].toArray}).push (bareExc C hp.objs.size),g,dr,tk,os⟩:Shared) =s1
 have keep1:∀b o,hp.get? b=some o→s1.heap.get? b=some o:=fun b o e=>by rw [← hs1];exact Heap.get?_push_of_some _ (Heap.get?_push_of_some _ e)
 have up1:∀a o,c.G.get? a=some o→s1.heap.get? a=some o:=fun a o e=>keep1 a o (up a o e)
 have he1:s1.heap.get? (hp.objs.size+1) =some (bareExc C hp.objs.size):=by
  rw [← hs1];show ((hp.push _).push _).get? _=_
  rw [← Heap.size_push hp {cls:= .type "tuple",data:= .seq [Value.str u t].toArray}];exact Heap.get?_push_size _ rfl
 have hen:hp.get? (hp.objs.size+1) =none:=Heap.get?_none_of_le (Nat.le_succ _)
 have same1:s1.gens=g∧s1.drawn=dr∧s1.os=os:=by rw [← hs1];exact ⟨rfl,rfl,rfl⟩
 generalize hee:hp.objs.size+1=e at *
 obtain ⟨D0,hbind⟩:=Ei.bind
 refine codeAny_call_function (by rw [hd1];omega) (up1 _ _ Ei.fn.get) Ei.fn.dat (by rw [Ei.fn.scp];exact Ei.fn.sc.co) (by rw [Ei.fn.scp];exact Ei.fn.sc.gen) Ei.fn.body (Ei.fn.code.keeps up1) (hbind _ _ _ up1 _ _ _ _ ?_)
 rw [Ei.fn.clo]
 refine wpAny_newFunctionEnv_cells (by rw [Ei.fn.scp];exact Ei.fn.sc.kind) (fun y hy=>?_) fun envC he s' xc=>?_
 ·rw [Ei.fn.scp]
  simp only [List.mem_cons,List.not_mem_nil,or_false] at hy
  rcases hy with rfl | rfl | rfl
  ·exact .inl Ei.self
  ·exact .inl Ei.what
  ·exact .inl Ei.at_
 ·have hk:∀y,envC.kindOf y=scope.names.lookup y:=fun y=>by rw [he,← Ei.fn.scp];rfl
  have eL:envC.locals=s1.heap.objs.size:=by rw [he];rfl
  have hkind:envC.scope.kind= .function:=by rw [he];exact (congrArg Scope.kind Ei.fn.scp).trans Ei.fn.sc.kind
  have hglob:envC.globals=mainGlobals:=by rw [he];exact Ei.fn.glob
  have hblt:envC.builtins=builtinsNs:=by rw [he];exact Ei.fn.blt
  have hint:interactive envC=false:=by unfold interactive;rw [hkind];rfl
  have keep2:=xc.toInCall.keep
  have hns:=xc.toInCall.ns
  have hnd:([(("self":Str),Value.ref e),("what",Value.str u t),("at",D0)].map (·.1:Str × Value→Str)).Nodup:=by show [("self":Str),"what","at"].Nodup;decide
  have m1:=bindL_at (k:=envC.kindOf) (x:="self") (v:= .ref e) (by rw [hk];exact Ei.self) [(("self":Str),Value.ref e),("what",Value.str u t),("at",D0)] (fun _=>none) hnd (.head _)
  have m2:=bindL_at (k:=envC.kindOf) (x:="what") (v:= .str u t) (by rw [hk];exact Ei.what) [(("self":Str),Value.ref e),("what",Value.str u t),("at",D0)] (fun _=>none) hnd (.tail _ (.head _))
  have m3:=bindL_at (k:=envC.kindOf) (x:="at") (v:=D0) (by rw [hk];exact Ei.at_) [(("self":Str),Value.ref e),("what",Value.str u t),("at",D0)] (fun _=>none) hnd (.tail _ (.tail _ (.head _)))
  generalize hm:bindL envC.kindOf [(("self":Str),Value.ref e),("what",Value.str u t),("at",D0)] (fun _=>none) =mm at *
  obtain ⟨h',tk',rfl⟩:=xc.toInCall.same
  refine ⟨(W.nolimit.keeps up1).keeps keep2,codeAny_func ?_⟩
  obtain ⟨q1,q2,q3,q4,q5,q6,q7,q8,q9,q10,q11,q12,q13,q14,rfl,hline⟩:=Ei.shape
  have up2:∀a o,c.G.get? a=some o→h'.get? a=some o:=fun a o e=>keep2 a o (up1 a o e)
  have X2:c.K.In h':=fun a o e=>up2 a o (gin a o e)
  have he2:=keep2 _ _ he1
  have heL:e≠envC.locals:=fun q=>by rw [eL] at q;exact Nat.ne_of_lt (Heap.lt_size he1) q
  have pl:∀x p,Pl (.Name x p):=fun x p=>⟨fun _ _=>rfl,fun op=>by cases op <;> rfl⟩
  have shp:EsSh [.Name "self" q3, .Name "what" q4]:= .cons (pl _ _) (.cons (pl _ _) .nil)
  refine wpAny_execs_cons ?_
  rw [exec_Expr envC _ q6 hint (by rfl)]
  refine wpAny_bind (wpAny_standAt (wpAny_bind ?_))
  have e1:eval (.Call (.Attribute (.Name "Exception" q1) "__init__" q2) [.Name "self" q3, .Name "what" q4] [] q5) envC= (attributeBase (.Name "Exception" q1) "__init__" envC (eval (.Name "Exception" q1) envC) >>= fun ov=>standAt q2.atName >>= fun _=>methodCall (.Name "Exception" q1) "__init__" q2 q5 envC ov (([.Name "self" q3, .Name "what" q4]:List Expr).length+ ([]:List Keyword).length) (backTo q5 (starEach [.Name "self" q3, .Name "what" q4] envC)) (backToKw q5 (keywordEach [] envC))):=by rfl
  rw [e1,show attributeBase (.Name "Exception" q1) "__init__" envC (eval (.Name "Exception" q1) envC) =eval (.Name "Exception" q1) envC from rfl]
  refine wpAny_bind (Name_function_global hkind (by rw [hk];exact Ei.exc) (loadGlobal_builtin (hglob▸W.g.keeps up2) hmg (hblt▸W.b.keeps up2) ((W.bl "Exception" (by decide)).trans boot_Exc) ?_) (by decide))
  refine wpAny_bind (wpAny_standAt (meth_tree shp (by show 2 < 29;decide) hline fun pl=>?_))
  have F:PyProof.Rows.Fr s1.heap envC.locals h' mm:=⟨hns,keep2,Nat.le_of_eq eL.symm⟩
  have X1:c.K.In s1.heap:=fun a o e=>up1 a o (gin a o e)
  with_reducible refine method_type (s:={s1 with heap:=h',toks:=tk'}) F X1 typeOf_Exc stub_Exc (v:= .builtin "Exception.__init__") (cls_Exc c.K) handed_Exc ?_
  refine callW (Pr:=fun _=>True) shp (keeps_machine (fun a q=>by cases q)) ?_
  show wpAny _ _ (spliced [(false,eval (.Name "self" q3) envC),(false,eval (.Name "what" q4) envC)]) _ _ _
  refine spliced_cons (wpAny_Name (wpAny_loadName_local hkind ((hk _).trans Ei.self) hns m1 (spliced_cons (wpAny_Name (wpAny_loadName_local hkind ((hk _).trans Ei.what) hns m2 (spliced_nil ⟨trivial,?_⟩)) (by decide)))) (by decide))
  refine exc_base_init (s:={s1 with heap:=h',toks:=tk'+1}) hB (up2 _ _ hG) he2 (wpAny_dropValue ?_)
  generalize hh3:(h'.push {cls:= .type "tuple",data:= .seq [Value.str u t].toArray}).update e (Obj.mapFields (·.setIfInBounds 0 (.ref h'.objs.size))) =h3
  have he3:h3.get? e=some {cls:= .ref C,data:= .fields #[.ref h'.objs.size, .none, .none, .none, .bool false, .none]}:=by
   rw [← hh3];exact Heap.get?_update_self _ (Heap.get?_push_of_some _ he2) rfl
  have keep3:∀b o,b≠e→h'.get? b=some o→h3.get? b=some o:=fun b o hb eb=>by
   rw [← hh3];exact (Heap.get?_update_other _ _ (Ne.symm hb)).trans (Heap.get?_push_of_some _ eb)
  have hns3:h3.Ns envC.locals mm:=by obtain ⟨o,es,ep,g1,g2⟩:=hns;exact ⟨o,es,ep,keep3 _ _ (Ne.symm heL) g1,g2⟩
  have old3:∀b o,hp.get? b=some o→h3.get? b=some o:=fun b o eb=>keep3 b o (fun q=>by rw [q,hen] at eb;cases eb) (keep2 _ _ (keep1 _ _ eb))
  have up3:∀a o,c.G.get? a=some o→h3.get? a=some o:=fun a o e=>old3 a o (up a o e)
  have X3:c.K.In h3:=fun a o e=>up3 a o (gin a o e)
  have row:∀(f y:Str) (p py ap pos:Pos) (Vy:Value) (s3:Shared) (P:Shared→Prop) (E':Value→Shared→Prop),s3.heap.Ns envC.locals mm→envC.kindOf y=some .local→mm y=some Vy→(y == ("__debug__":Str)) =false→wpAny (model c.prog c.w) (A1.deeper envC) (setAttr (.ref e) f Vy) (fun _ s'=>P s') E' s3→
    wpAny (model c.prog c.w) (A1.deeper envC) (exec (.Assign [.Attribute (.Name "self" p) f ap] (.Name y py) pos) envC) (fun fl s'=>fl= .next∧P s') E' s3:=by
   intro f y p py ap pos Vy s3 P E' hn hky hmy hdb h
   rw [exec_Assign]
   have hs:swapsWithSole [.Attribute (.Name "self" p) f ap] (.Name y py) pos.line envC=pure false:=by rfl
   rw [hs,pure_bind,if_neg Bool.false_ne_true,show swappedStores [.Attribute (.Name "self" p) f ap] (.Name y py) envC=pure none from rfl]
   refine wpAny_bind (wpAny_standAt (wpAny_bind (wpAny_Name (wpAny_loadName_local hkind hky hn hmy ?_) hdb)))
   show wpAny _ _ (pure none >>= fun sw=>assignStores envC Vy sw [assign (.Attribute (.Name "self" p) f ap) envC]) _ _ _
   rw [pure_bind]
   show wpAny _ _ (assign (.Attribute (.Name "self" p) f ap) envC Vy >>= fun _=>pure Flow.next) _ _ _
   rw [arm_assign_Attribute]
   refine wpAny_bind (wpAny_bind (wpAny_holding (wpAny_Name (wpAny_loadName_local hkind ((hk _).trans Ei.self) hn m1 ?_) (by decide))))
   exact wpAny_bind (wpAny_standAt (wpAny_bind (wpAny_holding (wpAny_mono h (fun _ s' q=>wpAny_release' (wpAny_pure ⟨rfl,q⟩)) fun _ _ q=>q))))
  refine wpAny_execs_cons (wpAny_mono (row "what" "what" q7 q9 q8 q10 (.str u t) {s1 with heap:=h3,toks:=tk'+1} (fun s'=>∃h4 tk4 dx,s'= {s1 with heap:=h4,toks:=tk4}∧h4.get? e=some {cls:= .ref C,dict:=some dx,data:= .fields #[.ref h'.objs.size, .none, .none, .none, .bool false, .none]}∧dx≠e∧
    h4.Ns1 dx (fun y=>if y="what" then some (.str u t) else none)∧h3.get? dx=none∧∀b o,b≠e→h3.get? b=some o→h4.get? b=some o) (fun _ _=>False) hns3 ((hk _).trans Ei.what) m2 (by decide)
   (exc_set (names:=["what","at"]) (mA:=fun _=>none) (ws:=[]) (s:={s1 with heap:=h3,toks:=tk'+1}) X3 S (.head _) he3 (fun _=>rfl) PySem.Within.nil (by decide) fun h4 tk4 dx g1 g2 g3 g4 g5 g6=>
    ⟨h4,tk4,dx,rfl,g1,g2,g3,g5 rfl,fun b o hb eb=>g6 b o hb (fun d q=>nomatch q) eb⟩)) (fun fl s' q=>?_) fun _ _ f=>f.elim)
  obtain ⟨rfl,h4,tk4,dx,rfl,g1,g2,g3,g5,g6⟩:=q
  have hns4:h4.Ns envC.locals mm:=by obtain ⟨o,es,ep,k1,k2⟩:=hns3;exact ⟨o,es,ep,g6 _ _ (Ne.symm heL) k1,k2⟩
  have old4:∀b o,hp.get? b=some o→h4.get? b=some o:=fun b o eb=>g6 b o (fun q=>by rw [q,hen] at eb;cases eb) (old3 b o eb)
  have X4:c.K.In h4:=fun a o e=>old4 a o (up a o (gin a o e))
  refine wpAny_execs_cons (wpAny_mono (row "at" "at" q11 q13 q12 q14 D0 {s1 with heap:=h4,toks:=tk4} (fun s'=>∃h5 tk5,s'= {s1 with heap:=h5,toks:=tk5}∧h5.get? e=some {cls:= .ref C,dict:=some dx,data:= .fields #[.ref h'.objs.size, .none, .none, .none, .bool false, .none]}∧
    ∀b o,b≠e→b≠dx→h4.get? b=some o→h5.get? b=some o) (fun _ _=>False) hns4 ((hk _).trans Ei.at_) m3 (by decide)
   (exc_set (names:=["what","at"]) (mA:=fun y=>if y="what" then some (.str u t) else none) (ws:=["what"]) (s:={s1 with heap:=h4,toks:=tk4}) X4 S (.tail _ (.head _)) g1 ⟨g2,g3⟩ (fun y hy=>by
     by_cases q:y="what"
     ·rw [q];exact .head _
     ·exact absurd (if_neg q) hy) (by decide) fun h5 tk5 dx' k1 k2 k3 k4 k5 k6=>by
    obtain rfl:=k4 dx rfl
    exact ⟨h5,tk5,rfl,k1,fun b o hb hbd eb=>k6 b o hb (fun d q=>by cases q;exact hbd) eb⟩)) (fun fl s' q=>?_) fun _ _ f=>f.elim)
  obtain ⟨rfl,h5,tk5,rfl,k1,k2⟩:=q
  refine wpAny_execs_nil ⟨rfl,?_⟩
  have old5:∀b o,hp.get? b=some o→h5.get? b=some o:=fun b o eb=>k2 b o (fun q=>by rw [q,hen] at eb;cases eb) (fun q=>by
   have:=old3 b o eb
   rw [q,g5] at this;cases this) (old4 b o eb)
  obtain ⟨a1,a2,a3⟩:=same1
  have:=hQ h5 tk5 e _ _ old5 hen k1 rfl rfl
  have es:({s1 with heap:=h5,toks:=tk5}:Shared) = ⟨h5,g,dr,tk5,os⟩:=by rw [← a1,← a2,← a3]
  rw [es];exact this
end
end Mine
end
section
set_option backward.match.sparseCases false
namespace Mine
open PySem PySem.W PySem.Calls PyProof.Rows PySem.SeqAt
noncomputable abbrev gt {α:Type}(x:String)(v:α):Str × α:=(Str.ofString x,v)
noncomputable def fnTab:List (Str × Addr):=[gt "kind_of" 277,gt "told_plain" 284,gt "told" 289,gt "sign_of" 398,gt "octet_of" 405,gt "octets_of" 424,gt "text_of" 429,gt "turned" 436,gt "home_of" 443,gt "lay" 450,gt "flag_place" 500,gt "flag_set" 507,gt "whole_in" 514,gt "flags_of" 521,gt "has_flag" 528,gt "form_of" 535,gt "row_in" 542,gt "own_name" 549,gt "longer_name" 556,gt "kind_word" 563,gt "with_inherited" 570,gt "new_node" 577,gt "is_field" 584,gt "own_widgets" 589,gt "walked_form" 594,gt "form_fields" 601,gt "fields_named" 606,gt "text_in" 613,gt "state_in" 620,gt "options" 627,gt "on_states" 632,gt "shown_states" 639,gt "text_change" 646,gt "choice_change" 651,gt "button_change" 656,gt "change_for" 663,gt "lay_change" 670,gt "need_appearances" 677,gt "fill" 684,gt "put_value" 691,gt "_law_take" 698,gt "_law_string" 705,gt "_law_object" 710,gt "_law_entries" 715,gt "_law_look" 720,gt "_law_widgets" 727,gt "_law_node" 732,gt "_law_form" 737,gt "_law_flag" 744,gt "_law_kind" 751,gt "_law_plain" 756,gt "_law_states" 766,gt "_law_laid" 771,gt "_law_exports" 776,gt "_law_is_let" 781,gt "_law_heads" 786,gt "_law_needed" 793,gt "_law_is_now" 798,gt "law" 803,gt "Name" 195,gt "String" 217,gt "Reference" 266,gt "Shelf" 375,gt "Field" 468,gt "FormWalk" 489,gt "told_objects" 289]
noncomputable def conTab:List (Str × MV):=[gt "MOST_HOPS" (.int 30),gt "MARK" (.bytes [254,255]),gt "OFF" (.str "Off"),gt "INHERITED_KEYS" (.tup [.str "FT", .str "Ff", .str "V", .str "DV", .str "MaxLen", .str "Opt"])]
noncomputable def bltTab:List (Str × Pr):=[gt "len" .len,gt "abs" .abs,gt "sorted" .sorted,gt "sum" .sum,gt "ord" .ord,gt "chr" .chr,gt "list" .list,gt "dict" .dict,gt "tuple" .tuple,gt "bytes" .bytes]
noncomputable def tyTab:List (Str × Ty):=[gt "bool" .bool,gt "int" .int,gt "str" .str,gt "list" .lst,gt "dict" .dct,gt "Decimal" (.cls 167),gt "Name" (.cls 195),gt "String" (.cls 217),gt "Stream" (.cls 238),gt "Reference" (.cls 266)]
noncomputable def fldTab:List (Str × Addr × Nat):=[gt "text" (195,0),gt "octets" (217,0),gt "is_hex" (217,1),gt "number" (266,0),gt "generation" (266,1),gt "table" (375,0),gt "trailer" (375,1),gt "name" (468,0),gt "reference" (468,1),gt "above" (468,2),gt "widgets" (468,3),gt "head" (468,4),gt "kind" (468,5),gt "fields" (489,0),gt "nodes" (489,1),gt "seen" (489,2)]
noncomputable def mtdTab:List (Str × Addr):=[gt "fetch" 311,gt "get" 318,gt "put" 339,gt "add" 346,gt "numbers" 360,gt "root" 367,gt "told" 372]
noncomputable abbrev LC:=Nat × Nat
noncomputable def atTab (l:List LC)(p:Pos):Bool:=l.any fun q=>Nat.beq q.1 p.line && Nat.beq q.2 p.col
noncomputable def muTab:List LC:=[(608,11),(139,21),(140,23),(530,41),(530,45),(509,33),(517,12),(501,12),(503,17),(610,11),(245,12),(254,11),(285,13),(326,12),(281,22),(282,21),(283,20),(347,11),(377,12),(390,12),(448,11),(552,12),(598,26)]
noncomputable def fzTL:List LC:=[(384,11),(395,11),(557,11),(507,11),(452,25),(364,11),(534,19),(534,25)]
noncomputable def fzTD:List LC:=[(251,11),(329,11),(505,31),(615,46),(622,24),(606,52),(526,30),(525,68)]
noncomputable def fzTN:List LC:=[(251,11),(329,11),(505,31),(615,46),(622,24),(526,30),(525,68)]
noncomputable def kTab:List LC:=[(518,15)]
structure Tb (c:Wo):Prop where
 bs:Bs c
 fn:∀x f,fnTab.lookup x=some f→c.mg x=some (.ref f)
 con:∀x v,conTab.lookup x=some v→∃V,c.mg x=some V∧VR c ⟨c.G.get?,[]⟩ v V
 blt:∀x r,bltTab.lookup x=some r→GlobAt c x r.val
 isi:GlobAt c "isinstance" (.builtin "isinstance")
 rng:GlobAt c "range" (.type "range")
 rev:GlobAt c "reversed" (.type "reversed")
 zip:GlobAt c "zip" (.type "zip")
 ty:∀x T,tyTab.lookup x=some T→GlobAt c x T.at∧TyOk c T
 fld:∀x k j,fldTab.lookup x=some (k,j)→FldOk c k j x
 mtd:∀x f,mtdTab.lookup x=some f→MtdOk c 375 x f
 exc:ExcOk c "DraftFault" 71
noncomputable abbrev SE (nm:Nms)(e:Expr):Type:={m:Cd MV // ∀c,Tb c→EOk c nm e m}
noncomputable abbrev ST (nm:Nms)(e:Expr):Type:={m:Cd Bool // ∀c,Tb c→TOk c nm e m}
structure Ps where
 e:∀(nm:Nms) (e:Expr),Option (SE nm e)
 t:∀(nm:Nms) (e:Expr),Option (ST nm e)
noncomputable def isPl (e:Expr):Bool:=match e with
 | .Set .. =>false
 | .Starred .. =>false
 | _=>true
theorem pl_of {e:Expr}(h:isPl e=true):Pl e:=by
 cases e <;> first | exact ⟨fun _ _=>rfl,fun _=>rfl⟩ | cases h
noncomputable def isComp (e:Expr):Bool:=match e with
 | .ListComp .. =>true
 | .DictComp .. =>true
 | .SetComp .. =>true
 | _=>false
theorem comp_of {e:Expr}(h:isComp e=false):NoComp e∧∀t,NoSwap t e:=by
 cases e <;> first | exact ⟨fun _ _=>rfl,fun _=>⟨fun _ _=>rfl⟩⟩ | cases h
noncomputable def isSet (e:Expr):Bool:=match e with
 | .Set .. =>true
 | _=>false
theorem set_of {e:Expr}(h:isSet e=false):NoSet e:=by
 cases e <;> first | exact fun _ _=>rfl | cases h
noncomputable def isBareC (f:Expr)(as:List Expr):Bool:=match f with
 | .Attribute .. =>true
 | .Name .. => !as.isEmpty
 | _=>false
noncomputable def isBare (o:Expr):Bool:=match o with
 | .Call f as _ _=>isBareC f as
 | _=>true
theorem bareC_of {f:Expr}{as:List Expr}{ks:List Keyword}{p:Pos}(h:isBareC f as=true):Bare (.Call f as ks p):=by
 cases f with
 | Attribute o x q=>exact fun _ _ _=>rfl
 | Name x q=>cases as with
  | nil=>cases h
  | cons a as=>exact fun _ _ _=>rfl
 | _=>cases h
theorem bare_of {o:Expr}(h:isBare o=true):Bare o:=by
 cases o with
 | Call f as ks p=>exact bareC_of h
 | _=>exact fun _ _ _=>rfl
noncomputable def isSlice (i:Expr):Bool:=match i with
 | .Slice .. =>true
 | _=>false
theorem sub_of {i:Expr}(h:isSlice i=false):Sub i:=by
 cases i <;> first | exact fun _ _=>rfl | cases h
noncomputable def slot:∀(nm:Nms)(x:Str),Option {p:Nat × NameKind // nm[p.1]?=some (x,p.2)}
 | [],_=>none
 | (y,k) ::r,x=>if h:(y == x) =true then some ⟨(0,k),by rw [eq_of_beq h];rfl⟩ else (slot r x).map fun p=>⟨(p.1.1+1,p.1.2),p.2⟩
noncomputable def gslot (nm:Nms)(x:Str):Option {j:Nat // nm[j]?=some (x, .globalImplicit)}:=(slot nm x).bind fun p=>match p with
 | ⟨(j, .globalImplicit),h⟩=>some ⟨j,h⟩
 | _=>none
noncomputable def oslot (nm:Nms)(x:Str):Option {j:Nat // Own nm j x}:=(slot nm x).bind fun p=>match p with
 | ⟨(j, .local),h⟩=>some ⟨j, .loc h⟩
 | ⟨(j, .cell),h⟩=>some ⟨j, .cel h⟩
 | _=>none
noncomputable def noDbg (x:Str):Bool:= !(x == ("__debug__":Str)) && !(x == ("__classdict__":Str))
theorem dbg_of {x:Str}(h:noDbg x=true):(x == ("__debug__":Str)) =false∧(x == ("__classdict__":Str)) =false:=by
 obtain ⟨a,b⟩:=Bool.and_eq_true_iff.mp h
 exact ⟨Bool.not_eq_true' _▸a,Bool.not_eq_true' _▸b⟩
noncomputable def frz (D:List LC){nm:Nms}{e:Expr}(p:Pos)(m:SE nm e):SE nm e:=bif atTab fzTL p then ⟨frL m.1,fun c T=>(m.2 c T).frL⟩ else bif atTab D p then ⟨frD m.1,fun c T=>(m.2 c T).frD⟩ else m
noncomputable def nameC (nm:Nms)(x:Str)(p:Pos):Option (SE nm (.Name x p)):=if hd:noDbg x=true then (slot nm x).bind fun q=>match q with
 | ⟨(j, .local),h⟩=>some (frz fzTN p ⟨lv j,fun c T=> .lv h (.inl rfl) (dbg_of hd).1 (dbg_of hd).2⟩)
 | ⟨(j, .cell),h⟩=>some (frz fzTN p ⟨lv j,fun c T=> .lv h (.inr (.inl rfl)) (dbg_of hd).1 (dbg_of hd).2⟩)
 | ⟨(j, .free),h⟩=>some (frz fzTN p ⟨lv j,fun c T=> .lv h (.inr (.inr rfl)) (dbg_of hd).1 (dbg_of hd).2⟩)
 | ⟨(j, .globalImplicit),h⟩=>match hc:conTab.lookup x with
  | some v=>some ⟨cst v,fun c T=>let ⟨_,h1,h2⟩:=T.con x v hc; .glob h (dbg_of hd).1 h1 h2⟩
  | none=>none
 | _=>none else none
noncomputable abbrev SEs (nm:Nms)(es:List Expr):Type:={ms:List (Cd MV) // ∀c,Tb c→EsOk c nm es (evs ms)}
noncomputable def esC (P:Ps)(nm:Nms):∀es,Option (SEs nm es)
 | []=>some ⟨[],fun c T=> .nil⟩
 | e::es=>if h:isPl e=true then (P.e nm e).bind fun m=>(esC P nm es).map fun ms=>⟨m.1::ms.1,fun c T=> .cons (pl_of h) (m.2 c T) (ms.2 c T)⟩ else none
noncomputable def boC (op:Operator):Option {b:Bo // b.at=op}:=match op with
 | .Add=>some ⟨.add,rfl⟩
 | .Sub=>some ⟨.sub,rfl⟩
 | .FloorDiv=>some ⟨.fdiv,rfl⟩
 | .Mod=>some ⟨.mod,rfl⟩
 | .Pow=>some ⟨.pow,rfl⟩
 | .RShift=>some ⟨.shr,rfl⟩
 | .BitAnd=>some ⟨.and,rfl⟩
 | _=>none
noncomputable def cmC (op:CmpOp):Option {b:Cm // b.at=op}:=match op with
 | .Eq=>some ⟨.eq,rfl⟩
 | .NotEq=>some ⟨.ne,rfl⟩
 | .Lt=>some ⟨.lt,rfl⟩
 | .LtE=>some ⟨.le,rfl⟩
 | .Gt=>some ⟨.gt,rfl⟩
 | .Is=>some ⟨.is,rfl⟩
 | .IsNot=>some ⟨.isnt,rfl⟩
 | .In=>some ⟨.in,rfl⟩
 | .NotIn=>some ⟨.notin,rfl⟩
 | _=>none
noncomputable abbrev SC (nm:Nms)(a:Expr)(ops:List CmpOp)(bs:List Expr)(p:Pos):Type:={m:Cd Bool // ∀c,Tb c→EOk c nm (.Compare a ops bs p) (ofT m)∧TOk c nm (.Compare a ops bs p) m}
noncomputable def cmpC (P:Ps)(nm:Nms)(a:Expr)(p:Pos):∀ops bs,Option (SC nm a ops bs p)
 | [op],[b]=>if h:isPl b=true then (cmC op).bind fun o=>(P.e nm a).bind fun ma=>(P.e nm b).map fun mb=>⟨tCmp o.1 ma.1 mb.1,fun c T=>by
   obtain ⟨o,rfl⟩:=o
   exact ⟨.cmp o (pl_of h) (ma.2 c T) (mb.2 c T), .cmp o (pl_of h) (ma.2 c T) (mb.2 c T)⟩⟩ else none
 | _,_=>none
end Mine
end
section
set_option backward.match.sparseCases false
namespace Mine
open PySem PySem.W PySem.Calls PyProof.Rows PySem.SeqAt
noncomputable def constC (nm:Nms)(k:Const)(u:Nat)(p:Pos):Option (SE nm (.Constant k u p)):=match k with
 | .none=>some ⟨cst .none,fun c T=> .none⟩
 | .bool b=>some ⟨cst (.bool b),fun c T=> .bool⟩
 | .int i=>some ⟨cst (.int i),fun c T=> .int⟩
 | .str s=>some ⟨cst (.str s),fun c T=> .str⟩
 | .bytes b=>some ⟨cst (.bytes b),fun c T=> .bytes⟩
 | _=>none
noncomputable abbrev SB (nm:Nms)(op:BoolOp)(p:Pos)(es:List Expr):Type:={m:Cd Bool // ∀c,Tb c→BopOk c nm op p es m}
noncomputable def bopC (P:Ps)(nm:Nms)(op:BoolOp)(p:Pos):∀es,Option (SB nm op p es)
 | []=>none
 | [e]=>(P.e nm e).map fun m=>⟨tv m.1,fun c T=> .one (m.2 c T)⟩
 | e::e2::es=>(P.e nm e).bind fun m=>(bopC P nm op p (e2::es)).map fun r=>match op,r with
  | .And,r=>⟨tAnd (tv m.1) r.1,fun c T=> .cons_and (m.2 c T) (r.2 c T)⟩
  | .Or,r=>⟨tOr (tv m.1) r.1,fun c T=> .cons_or (m.2 c T) (r.2 c T)⟩
noncomputable abbrev SA (nm:Nms)(op:BoolOp)(es:List Expr):Type:={m:Cd Bool // ∀c,Tb c→AllOk c nm op es m}
noncomputable def allC (P:Ps)(nm:Nms)(op:BoolOp):∀es,Option (SA nm op es)
 | []=>some (match op with
  | .And=>⟨yes,fun c T=> .nil_and⟩
  | .Or=>⟨tfl,fun c T=> .nil_or⟩)
 | e::es=>(P.t nm e).bind fun m=>(allC P nm op es).map fun r=>match op,r with
  | .And,r=>⟨tAnd m.1 r.1,fun c T=> .cons_and (m.2 c T) (r.2 c T)⟩
  | .Or,r=>⟨tOr m.1 r.1,fun c T=> .cons_or (m.2 c T) (r.2 c T)⟩
noncomputable abbrev SPs (nm:Nms)(p:Pos)(ks:List (Option Expr))(es:List Expr):Type:={r:List (Cd MV × Cd MV) × (Env→List (Sem Value × Sem Value)) // ∀c,Tb c→PsOk c nm p ks es (prs r.1) r.2}
noncomputable def psC (P:Ps)(nm:Nms)(p:Pos):∀ks es,Option (SPs nm p ks es)
 | [],[]=>some ⟨([],fun _=>[]),fun c T=> .nil⟩
 | some k::ks,e::es=>(P.e nm k).bind fun mk=>(P.e nm e).bind fun me=>(psC P nm p ks es).map fun r=>⟨((mk.1,me.1) ::r.1.1,_),fun c T=> .cons (mk.2 c T) (me.2 c T) (r.2 c T)⟩
 | _,_=>none
noncomputable def dictC (P:Ps)(nm:Nms)(p:Pos):∀ks es,Option (SE nm (.Dict ks es p))
 | [],[]=>some ⟨dctC (atTab muTab p) [],fun c T=> .dict0⟩
 | k::ks,es=>if h:(k::ks).length≤15 then (psC P nm p (k::ks) es).map fun r=>⟨dctC (atTab muTab p) r.1.1,fun c T=> .dict nofun h (r.2 c T)⟩ else none
 | _,_=>none
noncomputable abbrev STs (nm:Nms)(ts:List Expr):Type:={is:List Nat // ∀c,TsOk c nm ts is}
noncomputable def tsC (nm:Nms):∀ts,Option (STs nm ts)
 | []=>some ⟨[],fun c=> .nil⟩
 | .Name x p::ts=>(oslot nm x).bind fun i=>(tsC nm ts).map fun is=>⟨i.1::is.1,fun c=> .cons i.2 (is.2 c)⟩
 | _=>none
noncomputable abbrev SG (nm:Nms)(e:Expr):Type:={t:Tg // (∀c,TgOk c nm e t)∧One e}
noncomputable def tgC (nm:Nms)(e:Expr):Option (SG nm e):=match e with
 | .Name x p=>(oslot nm x).map fun i=>⟨.one i.1,fun c=> .one i.2,fun _ _=>rfl⟩
 | .Tuple ts k p=>(tsC nm ts).map fun is=>⟨.many is.1,fun c=> .many (is.2 c),fun _ _=>rfl⟩
 | _=>none
noncomputable def isB (x:Str)(y:String):Bool:=x == Str.ofString y
theorem isB_eq {x:Str}{y:String}(h:isB x y=true):x=Str.ofString y:=eq_of_beq h
noncomputable def isiC (P:Ps)(nm:Nms)(x:Str)(q:Pos)(p:Pos):∀args,Option (SE nm (.Call (.Name x q) args [] p))
 | [e, .Name y q']=>if h:isB x "isinstance"=true then if hp:isPl e=true then if hy:noDbg y=true then (gslot nm x).bind fun i=>(gslot nm y).bind fun k=>(P.e nm e).bind fun m=>match ht:tyTab.lookup y with
  | some T=>some ⟨isC T m.1,fun c B=>by
    obtain rfl:=isB_eq h
    exact .isC i.2 (by decide) B.isi (pl_of hp) (m.2 c B) k.2 (dbg_of hy).1 (B.ty y T ht).1 (B.ty y T ht).2⟩
  | none=>none else none else none else none
 | _=>none
noncomputable def nameCall (P:Ps)(nm:Nms)(x:Str)(q:Pos)(args:List Expr)(p:Pos):Option (SE nm (.Call (.Name x q) args [] p)):=if hd:noDbg x=true then (gslot nm x).bind fun i=>match hf:fnTab.lookup x with
 | some f=>(esC P nm args).map fun ms=>⟨kall f ms.1,fun c T=> .call i.2 (dbg_of hd).1 (.inl (T.fn x f hf)) (ms.2 c T)⟩
 | none=>match hb:bltTab.lookup x with
  | some r=>(esC P nm args).map fun ms=>⟨Mine.blt (atTab muTab p) r ms.1,fun c T=> .blt i.2 (dbg_of hd).1 (T.blt x r hb) (ms.2 c T)⟩
  | none=>isiC P nm x q p args else none
structure MthC (x:Str) where
 k:Knd
 r:Pr
 ok:MthOk k x r
noncomputable def mthC (x:Str)(n:Nat):Option (MthC x):=
 if h:isB x "append"=true then some ⟨.list, .append,isB_eq h▸mth_append⟩ else if h:isB x "get"=true then (match n with
  | 1=>some ⟨.dict, .get,isB_eq h▸mth_get⟩
  | _=>some ⟨.dict, .get2,isB_eq h▸mth_get2⟩) else if h:isB x "pop"=true then (match n with
  | 0=>some ⟨.list, .pop,isB_eq h▸mth_pop⟩
  | 1=>some ⟨.list, .pop0,isB_eq h▸mth_pop0⟩
  | _=>some ⟨.dict, .dpop,isB_eq h▸mth_dpop⟩) else if h:isB x "extend"=true then some ⟨.list, .extend,isB_eq h▸mth_extend⟩ else if h:isB x "index"=true then some ⟨.list, .index,isB_eq h▸mth_index⟩
 else if h:isB x "update"=true then some ⟨.dict, .update,isB_eq h▸mth_update⟩ else if h:isB x "join"=true then some ⟨.str, .join,isB_eq h▸mth_join⟩ else if h:isB x "startswith"=true then some ⟨.bytes, .starts,isB_eq h▸mth_starts⟩ else none
noncomputable def isOwn (o:Expr)(x:Str):Bool:=match o with
 | .Name y _=>isB y "shelf" || isB y "self" || !(isB x "get")
 | _=> !(isB x "get")
noncomputable def methCall (P:Ps)(nm:Nms)(o:Expr)(x:Str)(ap:Pos)(args:List Expr)(p:Pos):Option (SE nm (.Call (.Attribute o x ap) args [] p)):=
 if hb:isBare o=true then if hl:args.length < 29 then if hp:(ap.endLine == p.line) =true then (P.e nm o).bind fun mo=>(esC P nm args).bind fun ms=>match hf:mtdTab.lookup x,isOwn o x with
  | some f,true=>some ⟨mtd 375 f mo.1 ms.1,fun c T=> .mtd (bare_of hb) (T.mtd x f hf) (mo.2 c T) (ms.2 c T) hl hp⟩
  | _,_=>(mthC x args.length).map fun M=>⟨mth (atTab muTab p) M.k M.r mo.1 ms.1,fun c T=> .mth (bare_of hb) M.ok (mo.2 c T) (ms.2 c T) hl hp⟩ else none else none else none
noncomputable def callC (P:Ps)(nm:Nms)(f:Expr)(args:List Expr)(ks:List Keyword)(p:Pos):Option (SE nm (.Call f args ks p)):=match ks with
 | []=>(match f with
  | .Name x q=>nameCall P nm x q args p
  | .Attribute o x ap=>methCall P nm o x ap args p
  | _=>none)
 | _=>none
noncomputable def attrC (P:Ps)(nm:Nms)(o:Expr)(x:Str)(p:Pos):Option (SE nm (.Attribute o x p)):=if hb:isBare o=true then (P.e nm o).bind fun mo=>match hf:fldTab.lookup x with
 | some (k,j)=>some (frz fzTD p ⟨fd k j mo.1,fun c T=> .fd (bare_of hb) (T.fld x k j hf) (mo.2 c T)⟩)
 | none=>none else none
noncomputable def subC (P:Ps)(nm:Nms)(o i:Expr)(p:Pos):Option (SE nm (.Subscript o i p)):=(P.e nm o).bind fun mo=>if hs:isSlice i=false then (P.e nm i).map fun mi=>frz fzTD p ⟨itm mo.1 mi.1,fun c T=> .item (sub_of hs) (mo.2 c T) (mi.2 c T)⟩ else match i with
 | .Slice none (some n) none q=>(P.e nm n).map fun mn=>⟨tke mo.1 mn.1,fun c T=> .take (mo.2 c T) (mn.2 c T)⟩
 | _=>none
end Mine
end
section
set_option backward.match.sparseCases false
namespace Mine
open PySem PySem.W PySem.Calls PyProof.Rows PySem.SeqAt
noncomputable abbrev SI (nm:Nms)(t it:Expr):Type:={m:Cd (List MV) // ∀c,Tb c→IOk c nm t it m}
noncomputable def itCall (P:Ps)(nm:Nms)(t:Expr)(x:Str)(q:Pos)(p:Pos):∀args,Option (SI nm t (.Call (.Name x q) args [] p))
 | [e]=>if hp:isPl e=true then (gslot nm x).bind fun i=>(P.e nm e).bind fun m=>if h:isB x "range"=true then some ⟨iran m.1,fun c T=>by
    obtain rfl:=isB_eq h
    exact .range i.2 (by decide) T.rng (pl_of hp) (m.2 c T)⟩
   else if h:isB x "reversed"=true then some ⟨irev m.1,fun c T=>by
    obtain rfl:=isB_eq h
    exact .reversed i.2 (by decide) T.rev (pl_of hp) (m.2 c T)⟩ else none else none
 | [a,b]=>if h:isB x "zip"=true then if ha:isPl a=true then if hb:isPl b=true then (gslot nm x).bind fun i=>(P.e nm a).bind fun ma=>(P.e nm b).bind fun mb=>match t with
   | .Tuple ts k p'=>some ⟨izip ma.1 mb.1,fun c T=>by
    obtain rfl:=isB_eq h
    exact .zip i.2 (by decide) T.zip (pl_of ha) (ma.2 c T) (pl_of hb) (mb.2 c T)⟩
   | _=>none else none else none else none
 | _=>none
noncomputable def itC (P:Ps)(nm:Nms)(t it:Expr):Option (SI nm t it):=match P.e nm it with
 | some m=>some ⟨iover m.1,fun c T=> .over (m.2 c T)⟩
 | none=>match it with
  | .Call (.Name x q) args [] p=>itCall P nm t x q p args
  | _=>none
noncomputable abbrev SF (nm:Nms)(es:List Expr):Type:={m:Cd Bool // ∀c,Tb c→IfsOk c nm es m}
noncomputable def ifsC (P:Ps)(nm:Nms):∀es,Option (SF nm es)
 | []=>some ⟨yes,fun c T=> .nil⟩
 | e::es=>(P.t nm e).bind fun m=>(ifsC P nm es).map fun r=>⟨tAnd m.1 r.1,fun c T=> .cons (m.2 c T) (r.2 c T)⟩
noncomputable def hsOf (nm names:Nms):List (Option Nat):=names.map fun p=>match p.2 with
 | .free=>(slot nm p.1).map (·.1.1)
 | _=>none
noncomputable def compB (csc:Scope)(nm:Nms):Bool:=csc.kind == .function && hsOk nm csc.names (hsOf nm csc.names) && decide (csc.names.map (·.1)).Nodup
theorem comp_ok {csc:Scope}{nm:Nms}(h:compB csc nm=true):CompOk csc nm (hsOf nm csc.names):=by
 obtain ⟨h,h3⟩:=Bool.and_eq_true_iff.mp h
 obtain ⟨h1,h2⟩:=Bool.and_eq_true_iff.mp h
 exact ⟨eq_of_beq h1,h2,of_decide_eq_true h3⟩
structure GenC (nm ns:Nms)(t it:Expr)(ifs:List Expr) where
 i:SI nm t it
 t:SG ns t
 f:SF ns ifs
 s:NoSet it
noncomputable def genC (P:Ps)(nm ns:Nms)(t it:Expr)(ifs:List Expr):Option (GenC nm ns t it ifs):=if h:isSet it=false then (itC P nm t it).bind fun i=>(tgC ns t).bind fun t=>(ifsC P ns ifs).map fun f=>⟨i,t,f,set_of h⟩ else none
structure SL (nm:Nms)(elt:Expr)(gs:List Comprehension)(csc:Scope)(pos:Pos) where
 m:Cd MV
 t:Expr
 it:Expr
 ifs:List Expr
 eq:gs= ⟨t,it,ifs,0⟩ ::gs.tail
 ok:∀c,Tb c→CompE c nm (treeL elt it gs csc pos) m
noncomputable def listC (P:Ps)(nm:Nms)(elt:Expr)(csc:Scope)(pos:Pos):∀gs,Option (SL nm elt gs csc pos)
 | [⟨t,it,ifs,a⟩]=>if ha:a=0 then if hc:compB csc nm=true then (genC P nm csc.names t it ifs).bind fun g=>(P.e csc.names elt).map fun me=>⟨lcp (atTab muTab pos) (icomp (hsOf nm csc.names) g.t.1 g.i.1 g.f.1 (ione me.1)),t,it,ifs,by rw [ha];rfl,fun c T=>by
   subst ha
   exact .list1 (comp_ok hc) g.s (g.i.2 c T) (g.t.2.1 c) (g.f.2 c T) (me.2 c T)⟩ else none else none
 | [⟨t,it,ifs,a⟩,⟨t',it',ifs',a'⟩]=>if ha:a=0∧a'=0 then if hc:compB csc nm=true then (genC P nm csc.names t it ifs).bind fun g=>(genC P csc.names csc.names t' it' ifs').bind fun g'=>(P.e csc.names elt).map fun me=>
   ⟨lcp (atTab muTab pos) (icomp (hsOf nm csc.names) g.t.1 (lim g.i.1) g.f.1 (igen g'.t.1 (lim g'.i.1) g'.f.1 (ione me.1))),t,it,ifs,by rw [ha.1];rfl,fun c T=>by
   obtain ⟨rfl,rfl⟩:=ha
   exact .list2 (comp_ok hc) g.s (g.i.2 c T) (g.t.2.1 c) (g.f.2 c T) g'.s (g'.i.2 c T) (g'.t.2.1 c) (g'.f.2 c T) (me.2 c T)⟩ else none else none
 | _=>none
structure SD (nm:Nms)(kx vx:Expr)(gs:List Comprehension)(csc:Scope)(pos:Pos) where
 m:Cd MV
 t:Expr
 it:Expr
 ifs:List Expr
 eq:gs= [⟨t,it,ifs,0⟩]
 ok:∀c,Tb c→CompE c nm (treeD kx vx it [⟨t,it,ifs,0⟩] csc pos) m
noncomputable def dictCC (P:Ps)(nm:Nms)(kx vx:Expr)(csc:Scope)(pos:Pos):∀gs,Option (SD nm kx vx gs csc pos)
 | [⟨t,it,ifs,a⟩]=>if ha:a=0 then if hc:compB csc nm=true then (genC P nm csc.names t it ifs).bind fun g=>(P.e csc.names kx).bind fun mk=>(P.e csc.names vx).map fun mv=>⟨dcp (atTab muTab pos) (icomp (hsOf nm csc.names) g.t.1 g.i.1 g.f.1 (ipair mk.1 mv.1)),t,it,ifs,by rw [ha],
   fun c T=> .dict (comp_ok hc) g.s (g.i.2 c T) (g.t.2.1 c) (g.f.2 c T) (mk.2 c T) (mv.2 c T)⟩ else none else none
 | _=>none
noncomputable def exprC (P:Ps)(nm:Nms)(e:Expr):Option (SE nm e):=match e with
 | .Constant k u p=>constC nm k u p
 | .Name x p=>nameC nm x p
 | .BinOp a op b p=>(boC op).bind fun o=>(P.e nm a).bind fun ma=>(P.e nm b).map fun mb=>⟨bin o.1 ma.1 mb.1,fun c T=>by
   obtain ⟨o,rfl⟩:=o
   exact .bin o (ma.2 c T) (mb.2 c T)⟩
 | .UnaryOp op a p=>(P.e nm a).bind fun ma=>(match op with
  | .Not=>some ⟨ofT (tNot (tv ma.1)),fun c T=> .not (ma.2 c T)⟩
  | .USub=>some ⟨neg ma.1,fun c T=> .neg (ma.2 c T)⟩
  | _=>none)
 | .IfExp t a b p=>(P.t nm t).bind fun mt=>(P.e nm a).bind fun ma=>(P.e nm b).map fun mb=>⟨tIf mt.1 ma.1 mb.1,fun c T=> .ite (mt.2 c T) (ma.2 c T) (mb.2 c T)⟩
 | .BoolOp op es p=>(bopC P nm op p es).map fun m=>⟨ofT m.1,fun c T=> .bop (m.2 c T)⟩
 | .Compare a ops bs p=>(cmpC P nm a p ops bs).map fun m=>⟨ofT m.1,fun c T=>(m.2 c T).1⟩
 | .List es p=>(esC P nm es).map fun ms=>⟨lstC (atTab muTab p) ms.1,fun c T=> .list (ms.2 c T)⟩
 | .Tuple es k p=>if h:es.length≤100 then (esC P nm es).map fun ms=>⟨tupC ms.1,fun c T=> .tup h (ms.2 c T)⟩ else none
 | .Dict ks es p=>dictC P nm p ks es
 | .Attribute o x p=>attrC P nm o x p
 | .Subscript o i p=>subC P nm o i p
 | .Call f args ks p=>callC P nm f args ks p
 | .ListComp elt gs csc p=>(listC P nm elt csc p gs).map fun r=>⟨r.m,fun c T=> .listC r.eq (r.ok c T)⟩
 | .DictComp kx vx gs csc p=>(dictCC P nm kx vx csc p gs).map fun r=>⟨r.m,fun c T=>by
   obtain ⟨m,t,it,ifs,rfl,ok⟩:=r
   exact .dictC (ok c T)⟩
 | _=>none
noncomputable def isTest (e:Expr):Bool:=match e with
 | .UnaryOp .Not _ _=>true
 | .BoolOp .. =>true
 | .Compare .. =>true
 | .IfExp .. =>true
 | _=>false
theorem test_of {e:Expr}(h:isTest e=false)(env:Env):isTrue e env (eval e env) = (eval e env >>= fun v=>standAt e.pos >>= fun _=>holding [v] (truthy v)):=by
 cases e with
 | UnaryOp op a p=>cases op <;> first | rfl | cases h
 | _=>first | rfl | cases h
noncomputable def cmp2C (P:Ps)(nm:Nms)(a:Expr)(p:Pos):∀ops bs,Option (ST nm (.Compare a ops bs p))
 | [op,op'],[b,d]=>if h:isPl d=true then (cmC op).bind fun o=>(cmC op').bind fun o'=>(P.e nm a).bind fun ma=>(P.e nm b).bind fun mb=>(P.e nm d).map fun md=>⟨tCmp2 o.1 ma.1 mb.1 o'.1 md.1,fun c T=>by
   obtain ⟨o,rfl⟩:=o
   obtain ⟨o',rfl⟩:=o'
   exact .cmp2 o o' (pl_of h) (ma.2 c T) (mb.2 c T) (md.2 c T)⟩ else none
 | ops,bs=>(cmpC P nm a p ops bs).map fun m=>⟨m.1,fun c T=>(m.2 c T).2⟩
noncomputable def testC (P:Ps)(nm:Nms)(e:Expr):Option (ST nm e):=if h:isTest e=false then (P.e nm e).map fun m=>⟨tv m.1,fun c T=> .of (test_of h) (m.2 c T)⟩ else match e with
 | .UnaryOp .Not a p=>(P.t nm a).map fun m=>⟨tNot m.1,fun c T=> .not (m.2 c T)⟩
 | .BoolOp op es p=>(allC P nm op es).map fun m=>⟨m.1,fun c T=> .bop (m.2 c T)⟩
 | .Compare a ops bs p=>cmp2C P nm a p ops bs
 | _=>none
noncomputable def ps:Nat→Ps
 | 0=>⟨fun _ _=>none,fun _ _=>none⟩
 | n+1=>⟨exprC (ps n),testC (ps n)⟩
end Mine
end
section
set_option backward.match.sparseCases false
namespace Mine
open PySem PySem.W PySem.Calls PyProof.Rows PySem.SeqAt
noncomputable abbrev SSt (nm:Nms)(s:Stmt):Type:={m:Cs // ∀c,Tb c→SOk c nm s m}
noncomputable abbrev SBl (nm:Nms)(b:List Stmt):Type:={m:Cs // ∀c,Tb c→BOk c nm b m}
noncomputable def cellIn (nm:Nms):∀ts:List Expr,Option (PLift (∃x px,∃i:Nat,Expr.Name x px∈ts∧nm[i]?=some (x,NameKind.cell)))
 | []=>none
 | .Name x p::ts=>(match slot nm x with
  | some ⟨(j, .cell),h⟩=>some ⟨x,p,j, .head _,h⟩
  | _=>(cellIn nm ts).map fun q=>⟨q.1.elim fun x q=>q.elim fun p q=>q.elim fun i q=>⟨x,p,i, .tail _ q.1,q.2⟩⟩)
 | _=>none
noncomputable def swapC (P:Ps)(nm:Nms)(q:Pos)(k:Nat)(p:Pos)(vs:List Expr)(k':Nat)(p':Pos):∀ts,Option (SSt nm (.Assign [.Tuple ts k p] (.Tuple vs k' p') q))
 | [.Name a pa, .Name b pb]=>if hc:vs.all (constantsAlone 8) =false then (oslot nm a).bind fun i=>(oslot nm b).bind fun j=>if h:i.1≠j.1 then (P.e nm (.Tuple vs k' p')).map fun m=>⟨asS (.many [i.1,j.1]) m.1,fun c T=> .swap h i.2 j.2 hc (m.2 c T)⟩ else none else none
 | ts=>(cellIn nm ts).bind fun hx=>(tsC nm ts).bind fun is=>(P.e nm (.Tuple vs k' p')).map fun m=>⟨asS (.many is.1) m.1,fun c T=>by
   obtain ⟨x,px,i,h1,h2⟩:=hx.1
   exact .asS ((comp_of (e:= .Tuple vs k' p') rfl).2 _) (.cell h1 h2) (fun _ _=>rfl) (.many (is.2 c)) (m.2 c T)⟩
noncomputable abbrev SOne (nm:Nms)(t e:Expr)(q:Pos):Type:=Option (SSt nm (.Assign [t] e q))
noncomputable def isTwo (t e:Expr):Bool:=isTup t && isTup e
theorem nosw_of {c:Wo}{nm:Nms}{t e:Expr}(h:isTwo t e=false):(∃x p,t= .Name x p)∨isTup t=true→NoSw2 c nm t e:=by
 rintro (⟨x,p,rfl⟩ | ht)
 ·exact .name
 ·cases t with
  | Tuple ts k p=>exact .tup h
  | _=>cases ht
noncomputable def plainT? (t:Expr):Option (PLift ((∃x p,t= .Name x p)∨isTup t=true)):=match t with
 | .Name x p=>some ⟨.inl ⟨x,p,rfl⟩⟩
 | .Tuple .. =>some ⟨.inr rfl⟩
 | _=>none
noncomputable def asgP (P:Ps)(nm:Nms)(t e:Expr)(q:Pos):SOne nm t e q:=if h1:isComp e=false then if h2:isTwo t e=false then (plainT? t).bind fun h=>(tgC nm t).bind fun g=>(P.e nm e).map fun m=>
  ⟨asS g.1 m.1,fun c T=> .asS ((comp_of h1).2 t) (nosw_of h2 h.1) g.2.2 (g.2.1 c) (m.2 c T)⟩
 else (match t,e with
  | .Tuple ts k p, .Tuple vs k' p'=>swapC P nm q k p vs k' p' ts
  | _,_=>none)
 else (match t,e with
  | .Name x px, .ListComp elt gs csc pos=>(oslot nm x).bind fun i=>(listC P nm elt csc pos gs).map fun r=>⟨asS (.one i.1) r.m,fun c T=> .asL r.eq i.2 (r.ok c T)⟩
  | .Name x px, .DictComp kx vx gs csc pos=>(oslot nm x).bind fun i=>(dictCC P nm kx vx csc pos gs).map fun r=>⟨asS (.one i.1) r.m,fun c T=>by
    obtain ⟨m,t,it,ifs,rfl,ok⟩:=r
    exact .asD i.2 (ok c T)⟩
  | _,_=>none)
theorem nosw_sub {o i e:Expr}{p:Pos}:NoSwap (.Subscript o i p) e:=⟨fun _ _=>by cases e <;> rfl⟩
noncomputable def asgC (P:Ps)(nm:Nms)(t e:Expr)(q:Pos):SOne nm t e q:=match t with
 | .Subscript o i p=>(P.e nm o).bind fun mo=>(P.e nm i).bind fun mi=>(P.e nm e).map fun m=>⟨ixS mo.1 mi.1 m.1,fun c T=> .ixS nosw_sub (mo.2 c T) (mi.2 c T) (m.2 c T)⟩
 | t=>asgP P nm t e q
noncomputable def forKC (P:Ps)(nm:Nms)(B:∀b,Option (SBl nm b))(t:Expr)(x:Str)(q:Pos)(b:List Stmt)(p:Pos):Option (SSt nm (.For t (.Name x q) b [] p)):=if hd:noDbg x=true then (oslot nm x).bind fun j=>(tgC nm t).bind fun g=>(B b).map fun m=>⟨forK g.1 j.1 m.1,fun c T=> .forK (j.2.at_.elim (fun h=> .lv h (.inl rfl) (dbg_of hd).1 (dbg_of hd).2) fun h=> .lv h (.inr (.inl rfl)) (dbg_of hd).1 (dbg_of hd).2) (g.2.1 c) (m.2 c T)⟩ else none
noncomputable def forC (P:Ps)(nm:Nms)(B:∀b,Option (SBl nm b))(t it:Expr)(b:List Stmt)(p:Pos):Option (SSt nm (.For t it b [] p)):=if h:isSet it=false then (itC P nm t it).bind fun i=>(tgC nm t).bind fun g=>(B b).map fun m=>⟨forS g.1 i.1 m.1,fun c T=> .for (set_of h) (i.2 c T) (g.2.1 c) (m.2 c T)⟩ else none
noncomputable def raiC (P:Ps)(nm:Nms)(e:Expr)(pos:Pos):Option (SSt nm (.Raise (some e) none pos)):=match e with
 | .Call (.Name x q) [e] [] p=>if h:isB x "DraftFault"=true then if hp:isPl e=true then (gslot nm x).bind fun i=>(P.e nm e).map fun m=>⟨raiS m.1,fun c T=>by
   obtain rfl:=isB_eq h
   exact .raiS T.exc i.2 (pl_of hp) (m.2 c T)⟩ else none else none
 | _=>none
noncomputable def stmtC (P:Ps)(nm:Nms)(B:∀b,Option (SBl nm b))(s:Stmt):Option (SSt nm s):=match s with
 | .Expr e p=>if h:isComp e=false then (P.e nm e).map fun m=>⟨exS m.1,fun c T=> .exS (comp_of h).1 (m.2 c T)⟩ else none
 | .Assign ts e p=>(match ts with
  | [t]=>asgC P nm t e p
  | _=>none)
 | .If t b o p=>(P.t nm t).bind fun mt=>(B b).bind fun mb=>(B o).map fun mo=>⟨ifS mt.1 mb.1 mo.1,fun c T=> .ifS (mt.2 c T) (mb.2 c T) (mo.2 c T)⟩
 | .While t b o p=>(match o with
  | []=>(P.t nm t).bind fun mt=>(B b).map fun mb=>⟨whS mt.1 mb.1,fun c T=> .while (mt.2 c T) (mb.2 c T)⟩
  | _=>none)
 | .For t it b o p=>(match o with
  | []=>(match it with
   | .Name x q=>bif atTab kTab q then forKC P nm B t x q b p else forC P nm B t (.Name x q) b p
   | it=>forC P nm B t it b p)
  | _=>none)
 | .Return e p=>(match e with
  | some e=>(P.e nm e).map fun m=>⟨retS m.1,fun c T=> .retS (m.2 c T)⟩
  | none=>some ⟨retS (cst .none),fun c T=> .ret0⟩)
 | .Raise e u p=>(match e,u with
  | some e,none=>raiC P nm e p
  | _,_=>none)
 | .Break p=>some ⟨brkS,fun c T=> .brkS⟩
 | .Pass p=>some ⟨skp,fun c T=> .pass⟩
 | _=>none
theorem no_ok {c:Wo}{nm:Nms}{b:List Stmt}:BOk c nm b noS:=fun φ K N lc g W h hm=>hm.elim
noncomputable def blC (S:∀s,Option (SSt nm s)):∀b,Option (SBl nm b)
 | []=>some ⟨skp,fun c T=> .nil⟩
 | s::b=>(blC S b).map fun r=>match S s with
  | some m=>⟨sq m.1 r.1,fun c T=> .cons (m.2 c T) (r.2 c T)⟩
  | none=>⟨noS,fun c T=>no_ok⟩
noncomputable def blk (P:Ps)(nm:Nms):Nat→∀b,Option (SBl nm b)
 | 0=>fun _=>none
 | n+1=>blC (stmtC P nm (blk P nm n))
noncomputable abbrev STt (nm:Nms)(s:Stmt):Type:={m:Cs // ∀c,Tb c→STk c nm s m}
noncomputable abbrev SBt (nm:Nms)(b:List Stmt):Type:={m:Cs // ∀c,Tb c→BTk c nm b m}
noncomputable abbrev SU (nm:Nms)(b:List Stmt):Type:={m:Cd Unit // ∀c,Tb c→UOk c nm b m}
noncomputable def uC (P:Ps)(nm:Nms):Nat→∀b,Option (SU nm b)
 | 0=>fun _=>none
 | n+1=>fun b=>match b with
  | [.Expr e p]=>if h:isComp e=false then (P.e nm e).map fun m=>⟨uE m.1,fun c T=> .ex (comp_of h).1 (m.2 c T)⟩ else none
  | [.If t b b' p]=>(P.t nm t).bind fun mt=>(uC P nm n b).bind fun u=>(uC P nm n b').map fun u'=>⟨uIf mt.1 u.1 u'.1,fun c T=> .if (mt.2 c T) (u.2 c T) (u'.2 c T)⟩
  | _=>none
noncomputable def tryC (P:Ps)(nm:Nms)(b:List Stmt)(pos:Pos):∀hs,Option (STt nm (.Try b hs [] [] pos))
 | [.ExceptHandler (some (.Name x pc)) none [.Return (some r) pr] ph]=>if h:isB x "DraftFault"=true then (gslot nm x).bind fun i=>(uC P nm 5 b).bind fun u=>(P.e nm r).map fun mr=>⟨tryS u.1 mr.1,fun c T=>by
   obtain rfl:=isB_eq h
   exact .try T.exc i.2 (u.2 c T) (mr.2 c T)⟩ else none
 | _=>none
noncomputable def topS (P:Ps)(nm:Nms)(s:Stmt):Option (STt nm s):=match s with
 | .Try b hs [] [] p=>tryC P nm b p hs
 | s=>(stmtC P nm (blk P nm 20) s).map fun m=>⟨m.1,fun c T=> .of (m.2 c T)⟩
noncomputable def topC (P:Ps)(nm:Nms):∀b,Option (SBt nm b)
 | []=>some ⟨skp,fun c T=> .nil⟩
 | s::b=>(topS P nm s).bind fun m=>(topC P nm b).map fun r=>⟨sq m.1 r.1,fun c T=> .cons (m.2 c T) (r.2 c T)⟩
noncomputable abbrev SR' (nm:Nms)(k:Addr)(slf:Str)(b:List Stmt):Type:={r:List Str × List (Cd MV) // ∀c,Tb c→RowsOk c nm k slf b r.1 r.2}
noncomputable def rowC (P:Ps)(nm:Nms)(k:Addr)(slf:Str):∀b,Option (SR' nm k slf b)
 | []=>some ⟨([],[]),fun c T=> .nil⟩
 | .Assign [.Attribute (.Name y p) f ap] e pos::b=>if hy:(y == slf) =true then if hf:f∈namesOf k then if h:isComp e=false then (P.e nm e).bind fun m=>(rowC P nm k slf b).map fun r=>⟨(f::r.1.1,m.1::r.1.2),fun c T=>by
   obtain rfl:=eq_of_beq hy
   exact .cons ((comp_of h).2 _) hf (m.2 c T) (r.2 c T)⟩ else none else none else none
 | _=>none
end Mine
end
section
namespace Mine
open PySem PySem.W PySem.Calls PyProof.Rows PySem.SeqAt
inductive FnT (c:Wo)(f:Addr)(fc:FC):Prop
 | mk (ps:List Str)(body:List Stmt)(scope:Scope)(nm:Nms)(fo:Obj)(fd:FuncData):FnOk c f ps body scope nm fo fd→Binds c fd ps→BOk c nm body fc.body→ps.length=fc.np→keepIn c.K (.ref f) =true→FnT c f fc
inductive ClT (c:Wo)(k:Addr)(cc:CC):Prop
 | mk (i:Addr)(slf:Str)(ps:List Str)(ds:List MV)(dV:List Value)(body:List Stmt)(scope:Scope)(nm:Nms)(fo:Obj)(fd:FuncData):ClsOk c k i slf ps ds dV body scope nm fo fd→RowsOk c nm k slf body (namesOf k) cc.fs→ps.length=cc.np→ds=cc.dflts→keepIn c.K (.ref k) =true→ClT c k cc
noncomputable def EnT (c:Wo)(f:Addr)(e:En):Prop:=match e with
 | .fn fc=>FnT c f fc
 | .cls cc=>ClT c f cc
theorem oM_some {α:Type}{o:Option α}{Q:α→Prop}(h:oM o Q):∃a,o=some a∧Q a:=by
 cases o with
 | none=>exact h.elim
 | some a=>exact ⟨a,rfl,h⟩
theorem calls {c:Wo}{T:Addr→Option En}(B:Bs c)(h:∀f e,T f=some e→EnT c f e)(n:Nat):CallOk c n (callN T n):=by
 induction n with
 | zero=>exact ⟨fun _ _ _ _ _ _ _ _ _ _ q=>q.elim,fun _ _ _ _ _ _ q=>q.elim⟩
 | succ n ih=>
  refine ⟨fun φ E a args Vs Q g hn ok hv q=>?_,fun hd E a args Q H q=>?_⟩
  ·obtain ⟨e,he,q⟩:=oM_some q
   have t:=h a e he
   cases e with
   | fn fc=>
    obtain ⟨ps,body,scope,nm,fo,fd,K,b,m,hl,_⟩:=(t:FnT c a fc)
    obtain ⟨hl',q⟩:=q
    exact sim_fn B ih hn K b (fun φ' _ _ K N lc g W h q=>m φ' K N lc g W h q) hv (hl'.trans hl.symm) ok q
   | cls cc=>
    obtain ⟨i,slf,ps,ds,dV,body,scope,nm,fo,fd,K,r,hl,hds,_⟩:=(t:ClT c a cc)
    subst hds
    obtain ⟨l1,l2,q⟩:=q
    rw [← hl] at l1 l2 q
    exact sim_cls B ih hn K r hv l1 l2 ok q
  ·obtain ⟨e,he,q⟩:=oM_some q
   have t:=h a e he
   cases e with
   | fn fc=>exact FnT.rec (motive:=fun _=>keepIn c.K (.ref a) =true) (fun _ _ _ _ _ _ _ _ _ _ k=>k) t
   | cls cc=>exact ClT.rec (motive:=fun _=>keepIn c.K (.ref a) =true) (fun _ _ _ _ _ _ _ _ _ _ _ _ _ _ k=>k) t
end Mine
end
section
namespace Mine
open PySem
noncomputable def f277:Cs:=(sq (ifS (tCmp .is (lv 0) (cst .none)) (sq (retS (cst (.str "null"))) skp) skp) (sq (ifS (tv (isC .bool (lv 0))) (sq (retS (cst (.str "truth"))) skp) skp) (sq (ifS (tv (isC .int (lv 0))) (sq (retS (cst (.str "int"))) skp) skp) (sq (ifS (tv (isC (.cls 167) (lv 0))) (sq (retS (cst (.str "real"))) skp) skp) (sq (ifS (tv (isC (.cls 195) (lv 0))) (sq (retS (cst (.str "name"))) skp) skp) (sq (ifS (tv (isC (.cls 217) (lv 0))) (sq (retS (cst (.str "string"))) skp) skp) (sq (ifS (tv (isC .lst (lv 0))) (sq (retS (cst (.str "array"))) skp) skp) (sq (ifS (tv (isC .dct (lv 0))) (sq (retS (cst (.str "dict"))) skp) skp) (sq (ifS (tv (isC (.cls 238) (lv 0))) (sq (retS (cst (.str "stream"))) skp) skp) (sq (ifS (tv (isC (.cls 266) (lv 0))) (sq (retS (cst (.str "ref"))) skp) skp) noS))))))))))
noncomputable def f284:Cs:=(sq (ifS (tCmp .eq (lv 0) (cst (.str "null"))) (sq (retS (tupC [(cst (.str "null"))])) skp) skp) (sq (ifS (tCmp .eq (lv 0) (cst (.str "truth"))) (sq (retS (tupC [(cst (.str "truth")),(tIf (tv (lv 1)) (cst (.int 1)) (cst (.int 0)))])) skp) skp) (sq (ifS (tCmp .eq (lv 0) (cst (.str "int"))) (sq (retS (tupC [(cst (.str "int")),(lv 1)])) skp) skp) (sq (ifS (tCmp .eq (lv 0) (cst (.str "real"))) noS skp) (sq (ifS (tCmp .eq (lv 0) (cst (.str "name"))) (sq (retS (tupC [(cst (.str "name")),(fd 195 0 (lv 1))])) skp) skp) (sq (ifS (tCmp .eq (lv 0) (cst (.str "string"))) (sq (retS (tupC [(cst (.str "string")),(blt false .bytes [(fd 217 0 (lv 1))])])) skp) skp) (sq (retS (tupC [(cst (.str "ref")),(fd 266 0 (lv 1)),(fd 266 1 (lv 1))])) skp)))))))
noncomputable def f289:Cs:=(sq (asS (.one 1) (kall 277 [(lv 0)])) (sq (ifS (tCmp .eq (lv 1) (cst (.str "array"))) (sq (retS (bin .add (tupC [(cst (.str "array"))]) (blt false .tuple [(lcp false (icomp [none,none,none] (.one 1) (iover (lv 0)) yes (ione (kall 289 [(lv 1)]))))]))) skp) skp) (sq (ifS (tCmp .eq (lv 1) (cst (.str "dict"))) (sq (retS (bin .add (tupC [(cst (.str "dict"))]) (blt false .tuple [(lcp false (icomp [none,none,none,some 0] (.one 1) (iover (blt false .sorted [(lv 0)])) (tAnd (tCmp .isnt (itm (lv 3) (lv 1)) (cst .none)) yes) (ione (tupC [(lv 1),(kall 289 [(itm (lv 3) (lv 1))])]))))]))) skp) skp) (sq (ifS (tCmp .eq (lv 1) (cst (.str "stream"))) (sq (retS (tupC [(cst (.str "stream")),(kall 289 [(fd 468 4 (lv 0))]),(blt false .bytes [(fd 217 0 (lv 0))])])) skp) skp) (sq (retS (kall 284 [(lv 1),(lv 0)])) skp)))))
noncomputable def f311:Cs:=(sq (asS (.one 2) (lv 1)) (sq (forS (.one 3) (iran (cst (.int 30))) (sq (ifS (tNot (tv (isC (.cls 266) (lv 2)))) (sq (retS (lv 2)) skp) skp) (sq (asS (.many [4,5]) (mth false .dict .get2 (fd 375 0 (lv 0)) [(fd 266 0 (lv 2)),(tupC [(neg (cst (.int 1))),(cst .none)])])) (sq (ifS (tCmp .ne (lv 4) (fd 266 1 (lv 2))) (sq (retS (cst .none)) skp) skp) (sq (asS (.one 2) (lv 5)) skp))))) (sq (retS (tIf (tv (isC (.cls 266) (lv 2))) (cst .none) (lv 2))) skp)))
noncomputable def f318:Cs:=(sq (retS (mtd 375 311 (lv 0) [(mth false .dict .get (lv 1) [(lv 2)])])) skp)
noncomputable def f339:Cs:=(sq (ixS (fd 375 0 (lv 0)) (lv 1) (tupC [(lv 2),(lv 3)])) skp)
noncomputable def f346:Cs:=(sq (asS (.one 2) (cst (.int 1))) (sq (whS (tCmp .in (lv 2) (fd 375 0 (lv 0))) (sq (asS (.one 2) (bin .add (lv 2) (cst (.int 1)))) skp)) (sq (ixS (fd 375 0 (lv 0)) (lv 2) (tupC [(cst (.int 0)),(lv 1)])) (sq (retS (kall 266 [(lv 2),(cst (.int 0))])) skp))))
noncomputable def f360:Cs:=(sq (retS (blt false .sorted [(fd 375 0 (lv 0))])) skp)
noncomputable def f367:Cs:=(sq (asS (.one 1) (mtd 375 318 (lv 0) [(fd 375 1 (lv 0)),(cst (.str "Root"))])) (sq (retS (tIf (tv (isC .dct (lv 1))) (lv 1) (dctC false []))) skp))
noncomputable def f372:Cs:=(sq (asS (.one 1) (blt false .tuple [(lcp false (icomp [none,none,none,some 0] (.one 1) (iover (mtd 375 360 (lv 0) [])) yes (ione (tupC [(lv 1),(itm (itm (fd 375 0 (lv 3)) (lv 1)) (cst (.int 0))),(kall 289 [(itm (itm (fd 375 0 (lv 3)) (lv 1)) (cst (.int 1)))])]))))])) (sq (retS (tupC [(lv 1),(kall 289 [(fd 375 1 (lv 0))])])) skp))
noncomputable def f398:Cs:=(sq (ifS (tOr (tCmp .in (lv 0) (tupC [(cst (.int 9)),(cst (.int 10)),(cst (.int 13))])) (tOr (tCmp2 .le (cst (.int 32)) (lv 0) .lt (cst (.int 127))) (tOr (tAnd (tCmp2 .lt (cst (.int 160)) (lv 0) .lt (cst (.int 256))) (tAnd (tCmp .ne (lv 0) (cst (.int 173))) yes)) tfl))) (sq (retS (lv 0)) skp) skp) (sq (ifS (tCmp2 .le (cst (.int 24)) (lv 0) .lt (cst (.int 32))) noS skp) (sq (ifS (tCmp2 .le (cst (.int 128)) (lv 0) .lt (cst (.int 159))) noS skp) noS)))
noncomputable def f405:Cs:=(sq (ifS (tCmp .lt (lv 0) (cst (.int 256))) (sq (retS (tIf (tCmp .eq (kall 398 [(lv 0)]) (lv 0)) (lv 0) (neg (cst (.int 1))))) skp) skp) noS)
noncomputable def f424:Cs:=(sq (asS (.one 1) (lcp false (icomp [none,none,none,none] (.one 1) (iover (lv 0)) yes (ione (kall 405 [(blt false .ord [(lv 1)])]))))) (sq (ifS (tAnd (tCmp .notin (neg (cst (.int 1))) (lv 1)) (tAnd (tCmp .ne (tke (lv 1) (cst (.int 2))) (lstC false [(cst (.int 254)),(cst (.int 255))])) yes)) (sq (retS (blt false .bytes [(lv 1)])) skp) skp) (sq (asS (.one 2) (lstC false [])) noS)))
noncomputable def f429:Cs:=(sq (ifS (tNot (tv (mth false .bytes .starts (lv 0) [(cst (.bytes [254,255]))]))) (sq (retS (mth false .str .join (cst (.str "")) [(lcp false (icomp [none,none,none,none] (.one 1) (iover (lv 0)) yes (ione (blt false .chr [(kall 398 [(lv 1)])]))))])) skp) skp) noS)
noncomputable def f436:Cs:=(sq (asS (.one 2) (blt true .dict [(lv 0)])) (sq (forS (.one 3) (iover (lv 1)) (sq (ifS (tCmp .is (itm (lv 1) (lv 3)) (cst .none)) (sq (exS (mth false .dict .dpop (lv 2) [(lv 3),(cst .none)])) skp) (sq (ixS (lv 2) (lv 3) (itm (lv 1) (lv 3))) skp)) skp)) (sq (retS (frD (lv 2))) skp)))
noncomputable def f443:Cs:=(sq (asS (.one 2) (lv 1)) (sq (asS (.one 3) (dctC true [])) (sq (whS (tAnd (tv (isC (.cls 266) (lv 2))) (tAnd (tCmp .notin (fd 266 0 (lv 2)) (lv 3)) yes)) (sq (ixS (lv 3) (fd 266 0 (lv 2)) (cst (.bool true))) (sq (asS (.many [4,5]) (mth false .dict .get2 (fd 375 0 (lv 0)) [(fd 266 0 (lv 2)),(tupC [(neg (cst (.int 1))),(cst .none)])])) (sq (ifS (tCmp .ne (lv 4) (fd 266 1 (lv 2))) (sq brkS skp) skp) (sq (ifS (tNot (tv (isC (.cls 266) (lv 5)))) (sq (retS (lv 2)) skp) skp) (sq (asS (.one 2) (lv 5)) skp)))))) noS)))
noncomputable def f450:Cs:=(sq (exS (mtd 375 339 (lv 0) [(fd 266 0 (lv 1)),(fd 266 1 (lv 1)),(lv 2)])) skp)
noncomputable def f500:Cs:=(sq (asS (.one 1) (dctC true [((cst (.str "read only")),(cst (.int 1))),((cst (.str "required")),(cst (.int 2))),((cst (.str "no export")),(cst (.int 3))),((cst (.str "multi line")),(cst (.int 13))),((cst (.str "password")),(cst (.int 14))),((cst (.str "no toggle to off")),(cst (.int 15)))])) (sq (exS (mth false .dict .update (lv 1) [(dctC false [((cst (.str "radio")),(cst (.int 16))),((cst (.str "push")),(cst (.int 17))),((cst (.str "combo")),(cst (.int 18))),((cst (.str "edit")),(cst (.int 19))),((cst (.str "sort")),(cst (.int 20))),((cst (.str "multi select")),(cst (.int 22))),((cst (.str "comb")),(cst (.int 25)))])])) (sq (ixS (lv 1) (cst (.str "in unison")) (cst (.int 26))) (sq (retS (itm (lv 1) (lv 0))) skp))))
noncomputable def f507:Cs:=(sq (retS (ofT (tCmp .eq (bin .and (bin .shr (lv 0) (bin .sub (kall 500 [(lv 1)]) (cst (.int 1)))) (cst (.int 1))) (cst (.int 1))))) skp)
noncomputable def f514:Cs:=(sq (asS (.one 3) (mtd 375 318 (lv 0) [(lv 1),(lv 2)])) (sq (retS (tIf (tAnd (tv (isC .int (lv 3))) (tAnd (tNot (tv (isC .bool (lv 3)))) yes)) (lv 3) (cst .none))) skp))
noncomputable def f521:Cs:=(sq (asS (.one 2) (kall 514 [(lv 0),(lv 1),(cst (.str "Ff"))])) (sq (retS (tIf (tCmp .is (lv 2) (cst .none)) (cst (.int 0)) (lv 2))) skp))
noncomputable def f528:Cs:=(sq (retS (kall 507 [(kall 521 [(lv 0),(fd 468 4 (lv 1))]),(lv 2)])) skp)
noncomputable def f535:Cs:=(sq (asS (.one 1) (mtd 375 318 (lv 0) [(mtd 375 367 (lv 0) []),(cst (.str "AcroForm"))])) (sq (retS (tIf (tv (isC .dct (lv 1))) (lv 1) (dctC false []))) skp))
noncomputable def f542:Cs:=(sq (asS (.one 3) (mtd 375 318 (lv 0) [(lv 1),(lv 2)])) (sq (ifS (tCmp .is (lv 3) (cst .none)) (sq (retS (lstC false [])) skp) skp) (sq (ifS (tNot (tv (isC .lst (lv 3)))) noS skp) (sq (retS (lv 3)) skp))))
noncomputable def f549:Cs:=(sq (asS (.one 2) (mtd 375 318 (lv 0) [(lv 1),(cst (.str "T"))])) (sq (retS (tIf (tv (isC (.cls 217) (lv 2))) (kall 429 [(fd 217 0 (lv 2))]) (cst .none))) skp))
noncomputable def f556:Cs:=(sq (ifS (tCmp .is (lv 1) (cst .none)) (sq (retS (lv 0)) skp) skp) (sq (retS (tIf (tCmp .is (lv 0) (cst .none)) (lv 1) (bin .add (bin .add (lv 0) (cst (.str "."))) (lv 1)))) skp))
noncomputable def f563:Cs:=(sq (asS (.one 2) (mtd 375 318 (lv 0) [(lv 1),(cst (.str "FT"))])) (sq (asS (.one 3) (tIf (tv (isC (.cls 195) (lv 2))) (fd 195 0 (lv 2)) (cst (.str "")))) (sq (ifS (tCmp .eq (lv 3) (cst (.str "Btn"))) (sq (asS (.one 4) (kall 521 [(lv 0),(lv 1)])) (sq (ifS (tv (kall 507 [(lv 4),(cst (.str "push"))])) (sq (retS (cst (.str "push"))) skp) skp) (sq (retS (tIf (tv (kall 507 [(lv 4),(cst (.str "radio"))])) (cst (.str "radio")) (cst (.str "check")))) skp))) skp) (sq (retS (mth false .dict .get2 (dctC false [((cst (.str "Tx")),(cst (.str "text"))),((cst (.str "Ch")),(cst (.str "choice"))),((cst (.str "Sig")),(cst (.str "signature")))]) [(lv 3),(cst (.str ""))])) skp))))
noncomputable def f570:Cs:=(sq (asS (.one 2) (blt true .dict [(lv 1)])) (sq (forS (.one 3) (iover (lv 0)) (sq (ixS (lv 2) (lv 3) (itm (lv 0) (lv 3))) skp)) (sq (retS (frD (lv 2))) skp)))
noncomputable def f577:Cs:=(sq (asS (.one 3) (kall 443 [(lv 0),(lv 2)])) (sq (asS (.one 4) (mtd 375 311 (lv 0) [(lv 3)])) (sq (ifS (tOr (tCmp .in (fd 266 0 (lv 3)) (fd 489 2 (lv 1))) (tOr (tNot (tv (isC .dct (lv 4)))) tfl)) noS skp) (sq (ixS (fd 489 2 (lv 1)) (fd 266 0 (lv 3)) (cst (.bool true))) (sq (retS (tupC [(lv 3),(lv 4)])) skp)))))
noncomputable def f584:Cs:=(sq (asS (.one 2) (mtd 375 311 (lv 0) [(lv 1)])) (sq (retS (ofT (tAnd (tv (isC .dct (lv 2))) (tv (ofT (tCmp .isnt (kall 549 [(lv 0),(lv 2)]) (cst .none))))))) skp))
noncomputable def f589:Cs:=(sq (ifS (tCmp .gt (blt false .len [(lv 4)]) (cst (.int 0))) (sq (retS (lcp false (icomp [none,none,none,some 0,some 1] (.one 1) (iover (lv 4)) yes (ione (itm (kall 577 [(lv 3),(lv 4),(lv 1)]) (cst (.int 0))))))) skp) skp) (sq (asS (.one 5) (mtd 375 318 (lv 0) [(lv 3),(cst (.str "Subtype"))])) (sq (retS (tIf (tAnd (tv (isC (.cls 195) (lv 5))) (tAnd (tCmp .eq (fd 195 0 (lv 5)) (cst (.str "Widget"))) yes)) (lstC false [(lv 2)]) (lstC false []))) skp)))
noncomputable def f594:Cs:=(sq (asS (.one 1) (kall 489 [])) (sq (asS (.one 3) (lcp true (icomp [none,none] (.one 1) (irev (kall 542 [(lv 0),(kall 535 [(lv 0)]),(cst (.str "Fields"))])) yes (ione (tupC [(lv 1),(cst .none),(cst .none),(dctC false [])]))))) (sq (whS (tCmp .gt (blt false .len [(lv 3)]) (cst (.int 0))) (sq (asS (.many [2,4,5,6]) (mth false .list .pop (lv 3) [])) (sq (asS (.many [7,8]) (kall 577 [(lv 0),(lv 1),(lv 2)])) (sq (asS (.one 9) (kall 556 [(lv 5),(kall 549 [(lv 0),(lv 8)])])) (sq (asS (.one 10) (kall 570 [(lv 8),(lv 6)])) (sq (asS (.one 11) (kall 542 [(lv 0),(lv 8),(cst (.str "Kids"))])) (sq (asS (.one 12) (lcp false (icomp [none,none,none,some 0] (.one 1) (iover (lv 11)) (tAnd (tv (kall 584 [(lv 3),(lv 1)])) yes) (ione (lv 1))))) (sq (ifS (tCmp .gt (blt false .len [(lv 12)]) (cst (.int 0))) (sq (exS (mth false .list .append (fd 489 1 (lv 1)) [(tupC [(lv 7),(lv 4)])])) (sq (asS (.one 13) (dcp false (icomp [none,none,some 10] (.one 1) (iover (cst (.tup [.str "FT", .str "Ff", .str "V", .str "DV", .str "MaxLen", .str "Opt"]))) (tAnd (tCmp .in (lv 1) (lv 2)) yes) (ipair (lv 1) (itm (lv 2) (lv 1)))))) (sq (exS (mth false .list .extend (lv 3) [(lcp false (icomp [none,none,some 9,some 13,some 7] (.one 1) (irev (lv 12)) yes (ione (tupC [(lv 1),(lv 4),(lv 2),(lv 3)]))))])) skp))) (sq (asS (.one 14) (kall 589 [(lv 0),(lv 1),(lv 7),(lv 8),(lv 11)])) (sq (exS (mth false .list .append (fd 489 0 (lv 1)) [(kall 468 [(tIf (tCmp .is (lv 9) (cst .none)) (cst (.str "")) (lv 9)),(lv 7),(lv 4),(lv 14),(lv 10),(kall 563 [(lv 0),(lv 10)])])])) skp))) skp)))))))) (sq (retS (lv 1)) skp))))
noncomputable def f601:Cs:=(sq (retS (frL (fd 489 0 (kall 594 [(lv 0)])))) skp)
noncomputable def f606:Cs:=(sq (asS (.one 2) (lcp false (icomp [none,none,some 1] (.one 1) (iover (kall 601 [(lv 0)])) (tAnd (tCmp .eq (fd 468 0 (lv 1)) (lv 2)) yes) (ione (lv 1))))) (sq (ifS (tCmp .eq (blt false .len [(lv 2)]) (cst (.int 0))) (sq (raiS (bin .add (cst (.str "there is no field ")) (lv 1))) skp) skp) (sq (retS (lv 2)) skp)))
noncomputable def f613:Cs:=(sq (asS (.one 1) (mtd 375 311 (lv 0) [(lv 1)])) (sq (retS (tIf (tv (isC (.cls 217) (lv 1))) (kall 429 [(fd 217 0 (lv 1))]) (cst .none))) skp))
noncomputable def f620:Cs:=(sq (asS (.one 1) (mtd 375 311 (lv 0) [(lv 1)])) (sq (retS (tIf (tv (isC (.cls 195) (lv 1))) (fd 195 0 (lv 1)) (cst (.str "Off")))) skp))
noncomputable def f627:Cs:=(sq (asS (.one 2) (lstC true [])) (sq (forS (.one 3) (iover (kall 542 [(lv 0),(fd 468 4 (lv 1)),(cst (.str "Opt"))])) (sq (asS (.one 4) (mtd 375 311 (lv 0) [(lv 3)])) (sq (ifS (tAnd (tv (isC .lst (lv 4))) (tAnd (tCmp .eq (blt false .len [(lv 4)]) (cst (.int 2))) yes)) (sq (exS (mth false .list .append (lv 2) [(tupC [(kall 613 [(lv 0),(itm (lv 4) (cst (.int 0)))]),(kall 613 [(lv 0),(itm (lv 4) (cst (.int 1)))])])])) skp) (sq (exS (mth false .list .append (lv 2) [(tupC [(kall 613 [(lv 0),(lv 4)]),(kall 613 [(lv 0),(lv 4)])])])) skp)) skp))) (sq (retS (frL (lv 2))) skp)))
noncomputable def f632:Cs:=(sq (asS (.one 2) (mtd 375 318 (lv 0) [(mtd 375 311 (lv 0) [(lv 1)]),(cst (.str "AP"))])) (sq (asS (.one 2) (tIf (tv (isC .dct (lv 2))) (mtd 375 318 (lv 0) [(lv 2),(cst (.str "N"))]) (cst .none))) (sq (retS (tIf (tv (isC .dct (lv 2))) (lcp false (icomp [none,none,none] (.one 1) (iover (blt false .sorted [(lv 2)])) (tAnd (tCmp .ne (lv 1) (cst (.str "Off"))) yes) (ione (lv 1)))) (lstC false []))) skp)))
noncomputable def f639:Cs:=(sq (asS (.one 3) (lstC true [])) (sq (asS (.one 4) (ofT (tAnd (tv (ofT (tCmp .eq (fd 468 5 (lv 1)) (cst (.str "radio"))))) (tv (ofT (tNot (tv (kall 528 [(lv 0),(lv 1),(cst (.str "in unison"))])))))))) (sq (forS (.one 5) (iover (fd 468 3 (lv 1))) (sq (asS (.one 6) (ofT (tAnd (tv (ofT (tCmp .in (lv 2) (kall 632 [(lv 0),(lv 5)])))) (tv (ofT (tNot (tv (ofT (tAnd (tv (lv 4)) (tv (ofT (tCmp .in (lv 2) (lv 3))))))))))))) (sq (exS (mth false .list .append (lv 3) [(tIf (tv (lv 6)) (lv 2) (cst (.str "Off")))])) skp))) (sq (retS (frL (lv 3))) skp))))
noncomputable def f646:Cs:=(sq (asS (.one 3) (kall 514 [(lv 0),(fd 468 4 (lv 1)),(cst (.str "MaxLen"))])) (sq (ifS (tOr (tNot (tv (isC .str (lv 2)))) (tOr (tAnd (tCmp .isnt (lv 3) (cst .none)) (tAnd (tCmp .gt (blt false .len [(lv 2)]) (lv 3)) yes)) tfl)) (sq (raiS (bin .add (cst (.str "no text for the field ")) (fd 468 0 (lv 1)))) skp) skp) (sq (retS (dctC false [((cst (.str "V")),(kall 217 [(kall 424 [(lv 2)])]))])) skp)))
noncomputable def f651:Cs:=(sq (asS (.one 3) (kall 528 [(lv 0),(lv 1),(cst (.str "combo"))])) (sq (asS (.one 4) (tIf (tv (isC .lst (lv 2))) (lv 2) (lstC false [(lv 2)]))) (sq (asS (.one 5) (lcp false (icomp [none,none] (.one 1) (iover (kall 627 [(lv 0),(lv 1)])) yes (ione (itm (lv 1) (cst (.int 0))))))) (sq (ifS (tAnd (tv (isC .lst (lv 2))) (tAnd (tOr (tv (lv 3)) (tOr (tNot (tv (kall 528 [(lv 0),(lv 1),(cst (.str "multi select"))]))) tfl)) yes)) (sq (raiS (bin .add (cst (.str "only one choice for the field ")) (fd 468 0 (lv 1)))) skp) skp) (sq (forS (.one 6) (iran (blt false .len [(lv 4)])) (sq (asS (.one 7) (ofT (tAnd (tv (lv 3)) (tAnd (tv (kall 528 [(lv 0),(lv 1),(cst (.str "edit"))])) (tv (isC .str (itm (lv 4) (lv 6)))))))) (sq (ifS (tOr (tAnd (tCmp .notin (itm (lv 4) (lv 6)) (lv 5)) (tAnd (tNot (tv (lv 7))) yes)) (tOr (tCmp .is (itm (lv 4) (lv 6)) (cst .none)) (tOr (tCmp .in (itm (lv 4) (lv 6)) (tke (lv 4) (lv 6))) tfl))) (sq (raiS (bin .add (cst (.str "no choice for the field ")) (fd 468 0 (lv 1)))) skp) skp) skp))) (sq (asS (.one 8) (lcp false (icomp [none,none,none,none] (.one 1) (iover (lv 4)) yes (ione (kall 217 [(kall 424 [(lv 1)])]))))) (sq (asS (.one 9) (tIf (tv (lv 3)) (cst .none) (blt false .sorted [(lcp false (icomp [none,none,some 5] (.one 1) (iover (lv 4)) yes (ione (mth false .list .index (lv 2) [(lv 1)]))))]))) (sq (retS (dctC false [((cst (.str "V")),(tIf (tv (isC .lst (lv 2))) (lv 8) (itm (lv 8) (cst (.int 0))))),((cst (.str "I")),(lv 9))])) skp))))))))
noncomputable def f656:Cs:=(sq (asS (.one 3) (lcp false (icomp [none,none,none,none,some 0] (.one 1) (lim (iover (fd 468 3 (lv 1)))) yes (igen (.one 2) (lim (iover (kall 632 [(lv 4),(lv 1)]))) yes (ione (lv 2)))))) (sq (ifS (tCmp .eq (lv 2) (cst (.str "Off"))) (sq (ifS (tAnd (tCmp .eq (fd 468 5 (lv 1)) (cst (.str "radio"))) (tAnd (tv (kall 528 [(lv 0),(lv 1),(cst (.str "no toggle to off"))])) yes)) (sq (raiS (bin .add (bin .add (cst (.str "one button of the field ")) (fd 468 0 (lv 1))) (cst (.str " must be on")))) skp) skp) skp) (sq (ifS (tCmp .notin (lv 2) (lv 3)) (sq (raiS (bin .add (cst (.str "no state of the field ")) (fd 468 0 (lv 1)))) skp) skp) skp)) (sq (retS (dctC false [((cst (.str "V")),(kall 195 [(lv 2)]))])) skp)))
noncomputable def f663:Cs:=(sq (ifS (tv (kall 528 [(lv 0),(lv 1),(cst (.str "read only"))])) (sq (raiS (bin .add (bin .add (cst (.str "the field ")) (fd 468 0 (lv 1))) (cst (.str " is read only")))) skp) skp) (sq (ifS (tCmp .eq (fd 468 5 (lv 1)) (cst (.str "text"))) (sq (retS (kall 646 [(lv 0),(lv 1),(lv 2)])) skp) skp) (sq (ifS (tCmp .eq (fd 468 5 (lv 1)) (cst (.str "choice"))) (sq (retS (kall 651 [(lv 0),(lv 1),(lv 2)])) skp) skp) (sq (ifS (tCmp .in (fd 468 5 (lv 1)) (tupC [(cst (.str "check")),(cst (.str "radio"))])) (sq (retS (kall 656 [(lv 0),(lv 1),(lv 2)])) skp) skp) (sq (raiS (bin .add (bin .add (cst (.str "the field ")) (fd 468 0 (lv 1))) (cst (.str " has no value to put")))) skp)))))
noncomputable def f670:Cs:=(sq (exS (kall 450 [(lv 0),(fd 468 1 (lv 1)),(kall 436 [(mtd 375 311 (lv 0) [(fd 468 1 (lv 1))]),(lv 2)])])) (sq (ifS (tCmp .in (fd 468 5 (lv 1)) (tupC [(cst (.str "check")),(cst (.str "radio"))])) (sq (asS (.one 3) (kall 639 [(lv 0),(lv 1),(kall 620 [(lv 0),(itm (lv 2) (cst (.str "V")))])])) (sq (forS (.many [4,5]) (izip (fd 468 3 (lv 1)) (lv 3)) (sq (exS (kall 450 [(lv 0),(lv 4),(kall 436 [(mtd 375 311 (lv 0) [(lv 4)]),(dctC false [((cst (.str "AS")),(kall 195 [(lv 5)]))])])])) skp)) skp)) skp) skp))
noncomputable def f677:Cs:=(sq (ifS (tCmp .eq (kall 535 [(lv 0)]) (dctC false [])) (sq (retS (cst .none)) skp) skp) (sq (asS (.one 1) (kall 436 [(kall 535 [(lv 0)]),(dctC false [((cst (.str "NeedAppearances")),(cst (.bool true)))])])) (sq (asS (.one 2) (mth false .dict .get (mtd 375 367 (lv 0) []) [(cst (.str "AcroForm"))])) (sq (ifS (tv (isC (.cls 266) (lv 2))) (sq (exS (kall 450 [(lv 0),(kall 443 [(lv 0),(lv 2)]),(lv 1)])) skp) (sq (exS (kall 450 [(lv 0),(kall 443 [(lv 0),(itm (fd 375 1 (lv 0)) (cst (.str "Root")))]),(kall 436 [(mtd 375 367 (lv 0) []),(dctC false [((cst (.str "AcroForm")),(lv 1))])])])) skp)) skp))))
noncomputable def f684:Cs:=(sq (asS (.one 2) (lstC true [])) (sq (forS (.one 3) (iover (lv 1)) (sq (forS (.one 4) (iover (kall 606 [(lv 0),(lv 3)])) (sq (exS (mth false .list .append (lv 2) [(tupC [(lv 4),(kall 663 [(lv 0),(lv 4),(itm (lv 1) (lv 3))])])])) skp)) skp)) (sq (forS (.many [4,5]) (iover (frL (lv 2))) (sq (exS (kall 670 [(lv 0),(lv 4),(lv 5)])) skp)) (sq (ifS (tCmp .gt (blt false .len [(lv 2)]) (cst (.int 0))) (sq (exS (kall 677 [(lv 0)])) skp) skp) skp))))
noncomputable def f691:Cs:=(sq (exS (kall 684 [(lv 0),(dctC false [((lv 1),(lv 2))])])) skp)
noncomputable def f698:Cs:=(sq (ifS (tCmp .eq (blt false .len [(lv 0)]) (cst (.int 0))) (sq (retS (cst (.int 0))) skp) skp) (sq (asS (.one 2) (bin .mod (itm (lv 0) (cst (.int 0))) (lv 1))) (sq (ixS (lv 0) (cst (.int 0)) (bin .fdiv (itm (lv 0) (cst (.int 0))) (lv 1))) (sq (ifS (tCmp .eq (itm (lv 0) (cst (.int 0))) (cst (.int 0))) (sq (exS (mth false .list .pop0 (lv 0) [(cst (.int 0))])) skp) skp) (sq (retS (lv 2)) skp)))))
noncomputable def f705:Cs:=(sq (retS (kall 217 [(itm (tupC [(cst (.bytes [])),(cst (.bytes [97])),(cst (.bytes [97,98,99])),(cst (.bytes [97,98,99,100]))]) (kall 698 [(lv 0),(cst (.int 4))]))])) skp)
noncomputable def f710:Cs:=(sq (asS (.one 2) (kall 698 [(lv 0),(cst (.int 5))])) (sq (ifS (tCmp .eq (lv 2) (cst (.int 0))) (sq (retS (cst (.int 7))) skp) skp) (sq (ifS (tCmp .eq (lv 1) (cst (.str "Btn"))) (sq (retS (kall 195 [(itm (tupC [(cst (.str "Off")),(cst (.str "x")),(cst (.str "y")),(cst (.str "z"))]) (bin .sub (lv 2) (cst (.int 1))))])) skp) skp) (sq (retS (tIf (tAnd (tCmp .eq (lv 1) (cst (.str "Ch"))) (tAnd (tCmp .gt (lv 2) (cst (.int 2))) yes)) (lcp false (icomp [none,none,none,some 0] (.one 1) (iran (bin .sub (lv 2) (cst (.int 1)))) yes (ione (kall 705 [(lv 3)])))) (kall 705 [(lv 0)]))) skp))))
noncomputable def f715:Cs:=(sq (ifS (tOr (tCmp .eq (kall 698 [(lv 0),(cst (.int 3))]) (cst (.int 1))) (tOr (tAnd (tCmp .notin (cst (.str "FT")) (lv 2)) (tAnd (tCmp .lt (kall 698 [(lv 0),(cst (.int 6))]) (cst (.int 5))) yes)) tfl)) (sq (ixS (lv 1) (cst (.str "FT")) (kall 195 [(itm (tupC [(cst (.str "Tx")),(cst (.str "Ch")),(cst (.str "Btn")),(cst (.str "Btn")),(cst (.str "Ch")),(cst (.str "Sig"))]) (kall 698 [(lv 0),(cst (.int 6))]))])) skp) skp) (sq (asS (.one 3) (fd 195 0 (mth false .dict .get2 (lv 1) [(cst (.str "FT")),(mth false .dict .get2 (lv 2) [(cst (.str "FT")),(kall 195 [(cst (.str ""))])])]))) (sq (ifS (tCmp .eq (kall 698 [(lv 0),(cst (.int 2))]) (cst (.int 1))) (sq (ixS (lv 1) (cst (.str "Ff")) (blt false .sum [(lcp false (icomp [none,none,none,some 0] (.one 1) (iover (tupC [(cst (.int 0)),(cst (.int 2)),(cst (.int 14)),(cst (.int 15)),(cst (.int 16)),(cst (.int 17)),(cst (.int 18)),(cst (.int 21)),(cst (.int 25))])) (tAnd (tCmp .eq (kall 698 [(lv 3),(cst (.int 4))]) (cst (.int 1))) yes) (ione (bin .pow (cst (.int 2)) (lv 1)))))])) skp) skp) (sq (forS (.one 4) (iover (tupC [(cst (.str "V")),(cst (.str "DV"))])) (sq (ifS (tCmp .eq (kall 698 [(lv 0),(cst (.int 2))]) (cst (.int 1))) (sq (ixS (lv 1) (lv 4) (kall 710 [(lv 0),(lv 3)])) skp) skp) skp)) (sq (ifS (tCmp .eq (kall 698 [(lv 0),(cst (.int 3))]) (cst (.int 1))) (sq (ixS (lv 1) (cst (.str "MaxLen")) (cst (.int 3))) skp) skp) (sq (ifS (tCmp .eq (kall 698 [(lv 0),(cst (.int 2))]) (cst (.int 1))) (sq (asS (.one 5) (lstC false [(kall 217 [(cst (.bytes [97,98,99]))]),(kall 217 [(cst (.bytes [76,111,110,103]))])])) (sq (ixS (lv 1) (cst (.str "Opt")) (tke (lstC false [(kall 217 [(cst (.bytes [97]))]),(lv 5),(kall 217 [(cst (.bytes [97,98,99,100]))])]) (bin .add (cst (.int 1)) (kall 698 [(lv 0),(cst (.int 3))])))) skp)) skp) skp))))))
noncomputable def f720:Cs:=(sq (asS (.one 2) (lcp false (icomp [none,none,none,some 0] (.one 1) (iover (tupC [(cst (.str "Off")),(cst (.str "x")),(cst (.str "y"))])) (tAnd (tCmp .eq (kall 698 [(lv 3),(cst (.int 2))]) (cst (.int 1))) yes) (ione (lv 1))))) (sq (ixS (lv 1) (cst (.str "AP")) (dctC false [((cst (.str "N")),(blt false .dict [(lcp false (icomp [none,none] (.one 1) (iover (lv 2)) yes (ione (tupC [(lv 1),(cst (.int 0))]))))]))])) (sq (ixS (lv 1) (cst (.str "AS")) (kall 195 [(itm (tupC [(cst (.str "Off")),(cst (.str "x")),(cst (.str "y"))]) (kall 698 [(lv 0),(cst (.int 3))]))])) skp)))
noncomputable def f727:Cs:=(sq (asS (.one 4) (kall 698 [(lv 0),(cst (.int 4))])) (sq (ifS (tCmp .eq (lv 4) (cst (.int 0))) (sq (exS (kall 720 [(lv 0),(lv 3)])) (sq (ifS (tCmp .eq (kall 698 [(lv 0),(cst (.int 2))]) (cst (.int 0))) (sq (ixS (lv 3) (cst (.str "Subtype")) (kall 195 [(cst (.str "Widget"))])) skp) skp) (sq (retS (tIf (tCmp .in (cst (.str "Subtype")) (lv 3)) (lstC false [(lv 2)]) (lstC false []))) skp))) skp) (sq (asS (.one 5) (lstC true [])) (sq (forS (.one 6) (iran (lv 4)) (sq (asS (.one 7) (dctC true [((cst (.str "Subtype")),(kall 195 [(cst (.str "Widget"))])),((cst (.str "Parent")),(lv 2))])) (sq (exS (kall 720 [(lv 0),(lv 7)])) (sq (exS (mth false .list .append (lv 5) [(mtd 375 346 (lv 1) [(frD (lv 7))])])) skp)))) (sq (ixS (lv 3) (cst (.str "Kids")) (blt false .list [(lv 5)])) (sq (retS (frL (lv 5))) skp))))))
noncomputable def f732:Cs:=(sq (asS (.many [8,9]) (tupC [(mtd 375 346 (lv 1) [(dctC false [])]),(dctC true [])])) (sq (asS (.one 10) (itm (tupC [(cst (.str "a")),(cst (.str "b")),(cst (.str "c"))]) (kall 698 [(lv 0),(cst (.int 3))]))) (sq (ifS (tOr (tCmp .gt (lv 5) (cst (.int 0))) (tOr (tCmp .lt (kall 698 [(lv 0),(cst (.int 5))]) (cst (.int 4))) tfl)) (sq (ixS (lv 9) (cst (.str "T")) (kall 217 [(blt false .bytes [(lstC false [(blt false .ord [(lv 10)])])])])) skp) skp) (sq (asS (.one 11) (tIf (tCmp .notin (cst (.str "T")) (lv 9)) (lv 3) (tIf (tCmp .is (lv 3) (cst .none)) (lv 10) (bin .add (bin .add (lv 3) (cst (.str "."))) (lv 10))))) (sq (ifS (tCmp .isnt (lv 2) (cst .none)) (sq (ixS (lv 9) (cst (.str "Parent")) (lv 2)) skp) skp) (sq (exS (kall 715 [(lv 0),(lv 9),(lv 4)])) (sq (asS (.one 12) (blt true .dict [(lv 4)])) (sq (forK (.one 13) 9 (sq (ixS (lv 12) (lv 13) (itm (lv 9) (lv 13))) skp)) (sq (ifS (tAnd (tCmp .lt (lv 5) (cst (.int 2))) (tAnd (tCmp .eq (kall 698 [(lv 0),(cst (.int 3))]) (cst (.int 1))) yes)) (sq (asS (.one 14) (blt false .dict [(lcp false (icomp [none,none,some 12] (.one 1) (iover (tupC [(cst (.str "FT")),(cst (.str "Ff")),(cst (.str "V")),(cst (.str "DV")),(cst (.str "MaxLen")),(cst (.str "Opt"))])) (tAnd (tCmp .in (lv 1) (lv 2)) yes) (ione (tupC [(lv 1),(itm (lv 2) (lv 1))]))))])) (sq (exS (mth false .list .append (lv 7) [(tupC [(lv 8),(lv 2)])])) (sq (ixS (lv 9) (cst (.str "Kids")) (lcp false (icomp [none,none,none,some 5,some 11,some 7,some 14,some 8,some 0,some 6,some 1] (.one 1) (iran (bin .add (cst (.int 1)) (kall 698 [(lv 0),(cst (.int 2))]))) yes (ione (kall 732 [(lv 8),(lv 10),(lv 7),(lv 4),(lv 6),(bin .add (lv 3) (cst (.int 1))),(lv 9),(lv 5)]))))) skp))) (sq (exS (mth false .list .append (lv 6) [(tupC [(tIf (tCmp .isnt (lv 11) (cst .none)) (lv 11) (cst (.str ""))),(lv 8),(lv 2),(frD (lv 12)),(kall 727 [(lv 0),(lv 1),(lv 8),(lv 9)])])])) skp)) (sq (exS (mtd 375 339 (lv 1) [(fd 266 0 (lv 8)),(cst (.int 0)),(frD (lv 9))])) (sq (retS (lv 8)) skp)))))))))))
noncomputable def f737:Cs:=(sq (asS (.one 1) (kall 375 [])) (sq (asS (.many [2,3,4]) (tupC [(mtd 375 346 (lv 1) [(dctC false [])]),(lstC true []),(lstC true [])])) (sq (asS (.one 5) (dctC false [((cst (.str "Fields")),(lcp false (icomp [none,none,none,some 4,some 0,some 3,some 1] (.one 1) (iran (bin .add (cst (.int 1)) (kall 698 [(lv 0),(cst (.int 2))]))) yes (ione (kall 732 [(lv 4),(lv 6),(cst .none),(cst .none),(dctC false []),(cst (.int 0)),(lv 5),(lv 3)])))))])) (sq (exS (mtd 375 339 (lv 1) [(fd 266 0 (lv 2)),(cst (.int 0)),(dctC false [((cst (.str "AcroForm")),(tIf (tCmp .eq (kall 698 [(lv 0),(cst (.int 2))]) (cst (.int 1))) (mtd 375 346 (lv 1) [(lv 5)]) (lv 5)))])])) (sq (ixS (fd 375 1 (lv 1)) (cst (.str "Root")) (lv 2)) (sq (retS (tupC [(lv 1),(frL (lv 3)),(frL (lv 4))])) skp))))))
noncomputable def f744:Cs:=(sq (retS (ofT (tCmp .eq (bin .mod (bin .fdiv (mth false .dict .get2 (lv 0) [(cst (.str "Ff")),(cst (.int 0))]) (bin .pow (cst (.int 2)) (bin .sub (lv 1) (cst (.int 1))))) (cst (.int 2))) (cst (.int 1))))) skp)
noncomputable def f751:Cs:=(sq (asS (.one 1) (fd 195 0 (mth false .dict .get2 (lv 0) [(cst (.str "FT")),(kall 195 [(cst (.str ""))])]))) (sq (ifS (tCmp .eq (lv 1) (cst (.str "Btn"))) (sq (retS (tIf (tv (kall 744 [(lv 0),(cst (.int 17))])) (cst (.str "push")) (tIf (tv (kall 744 [(lv 0),(cst (.int 16))])) (cst (.str "radio")) (cst (.str "check"))))) skp) skp) (sq (retS (mth false .dict .get2 (dctC false [((cst (.str "Tx")),(cst (.str "text"))),((cst (.str "Ch")),(cst (.str "choice"))),((cst (.str "Sig")),(cst (.str "signature")))]) [(lv 1),(cst (.str ""))])) skp)))
noncomputable def f756:Cs:=(sq (retS (tIf (tv (isC (.cls 217) (lv 0))) (mth false .str .join (cst (.str "")) [(lcp false (icomp [none,none,none] (.one 1) (iover (fd 217 0 (lv 0))) yes (ione (blt false .chr [(lv 1)]))))]) (cst .none))) skp)
noncomputable def f766:Cs:=(sq (asS (.one 3) (lstC true [])) (sq (forS (.one 4) (iover (itm (lv 1) (cst (.int 4)))) (sq (asS (.one 5) (lcp false (icomp [none,none] (.one 1) (iover (itm (itm (mtd 375 311 (lv 0) [(lv 4)]) (cst (.str "AP"))) (cst (.str "N")))) (tAnd (tCmp .ne (lv 1) (cst (.str "Off"))) yes) (ione (lv 1))))) (sq (asS (.one 6) (ofT (tAnd (tv (ofT (tCmp .eq (kall 751 [(itm (lv 1) (cst (.int 3)))]) (cst (.str "radio"))))) (tv (ofT (tNot (tv (kall 744 [(itm (lv 1) (cst (.int 3))),(cst (.int 26))])))))))) (sq (exS (mth false .list .append (lv 3) [(tIf (tAnd (tCmp .in (lv 2) (lv 5)) (tAnd (tNot (tAnd (tv (lv 6)) (tAnd (tCmp .in (lv 2) (lv 3)) yes))) yes)) (lv 2) (cst (.str "Off")))])) skp)))) (sq (retS (frL (lv 3))) skp)))
noncomputable def f771:Cs:=(sq (asS (.one 4) (itm (lv 0) (fd 266 0 (itm (lv 1) (cst (.int 1)))))) (sq (asS (.one 5) (kall 751 [(itm (lv 1) (cst (.int 3)))])) (sq (ifS (tCmp .in (lv 5) (tupC [(cst (.str "check")),(cst (.str "radio"))])) (sq (ixS (lv 4) (cst (.str "V")) (kall 195 [(lv 3)])) (sq (forS (.many [6,7]) (izip (itm (lv 1) (cst (.int 4))) (kall 766 [(lv 2),(lv 1),(lv 3)])) (sq (ixS (itm (lv 0) (fd 266 0 (lv 6))) (cst (.str "AS")) (kall 195 [(lv 7)])) skp)) skp)) (sq (ifS (tCmp .eq (lv 5) (cst (.str "text"))) (sq (ixS (lv 4) (cst (.str "V")) (kall 217 [(blt false .bytes [(lcp false (icomp [none,none,none] (.one 1) (iover (lv 3)) yes (ione (blt false .ord [(lv 1)]))))])])) skp) (sq (asS (.one 8) (tIf (tv (isC .lst (lv 3))) (lv 3) (lstC false [(lv 3)]))) (sq (asS (.one 9) (lcp false (icomp [none,none,none,none] (.one 1) (iover (lv 8)) yes (ione (kall 217 [(blt false .bytes [(lcp false (icomp [none,none,none] (.one 1) (iover (lv 1)) yes (ione (blt false .ord [(lv 1)]))))])]))))) (sq (ixS (lv 4) (cst (.str "V")) (tIf (tv (isC .lst (lv 3))) (lv 9) (itm (lv 9) (cst (.int 0))))) (sq (exS (mth false .dict .dpop (lv 4) [(cst (.str "I")),(cst .none)])) (sq (ifS (tNot (tv (kall 744 [(itm (lv 1) (cst (.int 3))),(cst (.int 18))]))) (sq (asS (.one 10) (kall 776 [(itm (lv 1) (cst (.int 3)))])) (sq (ixS (lv 4) (cst (.str "I")) (blt false .sorted [(lcp false (icomp [none,none,some 10] (.one 1) (iover (lv 8)) yes (ione (mth false .list .index (lv 2) [(lv 1)]))))])) skp)) skp) skp)))))) skp)) skp)))
noncomputable def f776:Cs:=(sq (retS (lcp false (icomp [none,none,none,none,none] (.one 1) (iover (mth false .dict .get2 (lv 0) [(cst (.str "Opt")),(lstC false [])])) yes (ione (kall 756 [(tIf (tv (isC .lst (lv 1))) (itm (lv 1) (cst (.int 0))) (lv 1))]))))) skp)
noncomputable def f781:Cs:=(sq (asS (.one 3) (itm (lv 1) (cst (.int 3)))) (sq (asS (.one 4) (kall 751 [(lv 3)])) (sq (ifS (tOr (tv (kall 744 [(lv 3),(cst (.int 1))])) (tOr (tCmp .notin (lv 4) (tupC [(cst (.str "text")),(cst (.str "choice")),(cst (.str "check")),(cst (.str "radio"))])) tfl)) (sq (retS (cst (.bool false))) skp) skp) (sq (ifS (tCmp .eq (lv 4) (cst (.str "text"))) (sq (retS (ofT (tAnd (tv (isC .str (lv 2))) (tv (ofT (tOr (tv (ofT (tCmp .le (blt false .len [(lv 2)]) (cst (.int 3))))) (tv (ofT (tCmp .notin (cst (.str "MaxLen")) (lv 3)))))))))) skp) skp) (sq (ifS (tCmp .in (lv 4) (tupC [(cst (.str "check")),(cst (.str "radio"))])) (sq (asS (.one 5) (lcp false (icomp [none,none,none,some 0] (.one 1) (lim (iover (itm (lv 1) (cst (.int 4))))) yes (igen (.one 2) (lim (iover (itm (itm (mtd 375 311 (lv 3) [(lv 1)]) (cst (.str "AP"))) (cst (.str "N"))))) yes (ione (lv 2)))))) (sq (ifS (tCmp .eq (lv 2) (cst (.str "Off"))) (sq (retS (ofT (tNot (tv (ofT (tAnd (tv (ofT (tCmp .eq (lv 4) (cst (.str "radio"))))) (tv (kall 744 [(lv 3),(cst (.int 15))])))))))) skp) skp) (sq (retS (ofT (tCmp .in (lv 2) (lv 5)))) skp))) skp) (sq (asS (.one 6) (tIf (tv (isC .lst (lv 2))) (lv 2) (lstC false [(lv 2)]))) (sq (ifS (tAnd (tv (isC .lst (lv 2))) (tAnd (tOr (tv (kall 744 [(lv 3),(cst (.int 18))])) (tOr (tNot (tv (kall 744 [(lv 3),(cst (.int 22))]))) tfl)) yes)) (sq (retS (cst (.bool false))) skp) skp) (sq (asS (.one 7) (ofT (tAnd (tv (kall 744 [(lv 3),(cst (.int 18))])) (tv (kall 744 [(lv 3),(cst (.int 19))]))))) (sq (forS (.one 8) (iran (blt false .len [(lv 6)])) (sq (ifS (tOr (tNot (tv (isC .str (itm (lv 6) (lv 8))))) (tOr (tCmp .in (itm (lv 6) (lv 8)) (tke (lv 6) (lv 8))) (tOr (tAnd (tCmp .notin (itm (lv 6) (lv 8)) (kall 776 [(lv 3)])) (tAnd (tNot (tv (lv 7))) yes)) tfl))) (sq (retS (cst (.bool false))) skp) skp) skp)) (sq (retS (cst (.bool true))) skp))))))))))
noncomputable def f786:Cs:=(sq (retS (blt false .dict [(lcp false (icomp [none,none,none,some 0] (.one 1) (iover (mtd 375 360 (lv 0) [])) yes (ione (tupC [(lv 1),(blt true .dict [(itm (itm (fd 375 0 (lv 3)) (lv 1)) (cst (.int 1)))])]))))])) skp)
noncomputable def f793:Cs:=(sq (asS (.one 2) (itm (itm (lv 1) (cst (.int 1))) (cst (.str "AcroForm")))) (sq (ifS (tv (isC (.cls 266) (lv 2))) (sq (ixS (itm (lv 1) (fd 266 0 (lv 2))) (cst (.str "NeedAppearances")) (cst (.bool true))) skp) (sq (ixS (itm (lv 1) (cst (.int 1))) (cst (.str "AcroForm")) (dctC false [((cst (.str "Fields")),(itm (lv 2) (cst (.str "Fields")))),((cst (.str "NeedAppearances")),(cst (.bool true)))])) skp)) skp))
noncomputable def f798:Cs:=(sq (retS (ofT (tCmp .eq (mtd 375 372 (lv 0) []) (mtd 375 372 (kall 375 [(blt false .dict [(lcp false (icomp [none,none,some 1] (.one 1) (iover (lv 1)) yes (ione (tupC [(lv 1),(tupC [(cst (.int 0)),(frD (itm (lv 2) (lv 1)))])]))))]),(fd 375 1 (lv 0))]) [])))) skp)
noncomputable def f803:Cs:=(sq (asS (.one 1) (lcp true (icomp [none,none,none] (.one 1) (iover (tke (lv 0) (cst (.int 24)))) yes (ione (bin .mod (blt false .abs [(lv 1)]) (bin .pow (cst (.int 10)) (cst (.int 80)))))))) (sq (asS (.many [2,3,4]) (kall 737 [(lv 1)])) (sq (asS (.one 5) (dctC true [])) (sq (forS (.one 6) (iran (bin .add (cst (.int 1)) (kall 698 [(lv 1),(cst (.int 2))]))) (sq (asS (.one 8) (itm (lcp false (icomp [none,none] (.one 1) (iover (lv 3)) yes (ione (itm (lv 1) (cst (.int 0)))))) (bin .mod (kall 698 [(lv 1),(cst (.int 9))]) (blt false .len [(lv 3)])))) (sq (ixS (lv 5) (lv 8) (itm (tupC [(cst (.str "abc")),(cst (.str "x")),(cst (.str "Off")),(cst (.str "abcd")),(cst (.str "y")),(cst (.str "")),(lstC false [(cst (.str "abc")),(cst (.str "a"))]),(lstC false [(cst (.str "abc"))]),(lstC false []),(lstC false [(cst (.str "a")),(cst (.str "a"))]),(cst (.int 7))]) (kall 698 [(lv 1),(cst (.int 11))]))) skp))) (sq (asS (.one 9) (mtd 375 372 (lv 2) [])) (sq (asS (.one 10) (lcp false (icomp [none,none,none,some 5,some 3] (.one 1) (lim (iover (frD (lv 5)))) yes (igen (.one 2) (lim (iover (lv 4))) (tAnd (tCmp .eq (itm (lv 2) (cst (.int 0))) (lv 1)) yes) (ione (tupC [(lv 2),(itm (lv 3) (itm (lv 2) (cst (.int 0))))])))))) (sq (asS (.one 12) (ofT (tCmp .eq (blt false .len [(lcp false (icomp [none,none,none,none,some 2] (.many [1,2]) (iover (lv 10)) (tAnd (tNot (tv (kall 781 [(lv 4),(lv 1),(lv 2)]))) yes) (ione (lv 1))))]) (cst (.int 0))))) (sq (asS (.one 13) (kall 786 [(lv 2)])) (sq (tryS (uIf (tCmp .eq (blt false .len [(lv 5)]) (cst (.int 1))) (uE (kall 691 [(lv 2),(itm (blt false .list [(lv 5)]) (cst (.int 0))),(itm (lv 5) (itm (blt false .list [(lv 5)]) (cst (.int 0))))])) (uE (kall 684 [(lv 2),(frD (lv 5))]))) (ofT (tAnd (tv (ofT (tNot (tv (lv 12))))) (tv (ofT (tCmp .eq (mtd 375 372 (lv 2) []) (lv 9))))))) (sq (ifS (tNot (tv (lv 12))) (sq (retS (cst (.bool false))) skp) skp) (sq (forS (.many [7,11]) (iover (lv 10)) (sq (exS (kall 771 [(lv 13),(lv 7),(lv 2),(lv 11)])) skp)) (sq (exS (kall 793 [(lv 2),(lv 13)])) (sq (retS (kall 798 [(lv 2),(lv 13)])) skp)))))))))))))
noncomputable def f195:List (Cd MV):=[(lv 1)]
noncomputable def f217:List (Cd MV):=[(lv 1),(lv 2)]
noncomputable def f266:List (Cd MV):=[(lv 1),(lv 2)]
noncomputable def f375:List (Cd MV):=[(tIf (tCmp .is (lv 1) (cst .none)) (dctC true []) (lv 1)),(tIf (tCmp .is (lv 2) (cst .none)) (dctC true []) (lv 2))]
noncomputable def f468:List (Cd MV):=[(lv 1),(lv 2),(lv 3),(lv 4),(lv 5),(lv 6)]
noncomputable def f489:List (Cd MV):=[(lstC true []),(lstC true []),(dctC true [])]
noncomputable def tl:List (Nat × En):=[(277, .fn ⟨1,11,f277⟩),(284, .fn ⟨2,1,f284⟩),(289, .fn ⟨1,7,f289⟩),(311, .fn ⟨2,8,f311⟩),(318, .fn ⟨3,0,f318⟩),(339, .fn ⟨4,0,f339⟩),(346, .fn ⟨2,2,f346⟩),(360, .fn ⟨1,1,f360⟩),(367, .fn ⟨1,3,f367⟩),(372, .fn ⟨1,3,f372⟩),(398, .fn ⟨1,3,f398⟩),(405, .fn ⟨1,3,f405⟩),(424, .fn ⟨1,6,f424⟩),(429, .fn ⟨1,7,f429⟩),(436, .fn ⟨2,3,f436⟩),(443, .fn ⟨2,7,f443⟩),(450, .fn ⟨3,0,f450⟩),(500, .fn ⟨1,1,f500⟩),(507, .fn ⟨2,1,f507⟩),(514, .fn ⟨3,4,f514⟩),(521, .fn ⟨2,2,f521⟩),(528, .fn ⟨3,2,f528⟩),(535, .fn ⟨1,3,f535⟩),(542, .fn ⟨3,4,f542⟩),(549, .fn ⟨2,4,f549⟩),(556, .fn ⟨2,0,f556⟩),(563, .fn ⟨2,7,f563⟩),(570, .fn ⟨2,3,f570⟩),(577, .fn ⟨3,6,f577⟩),(584, .fn ⟨2,4,f584⟩),(589, .fn ⟨5,4,f589⟩),(594, .fn ⟨1,27,f594⟩),(601, .fn ⟨1,1,f601⟩),(606, .fn ⟨2,4,f606⟩),(613, .fn ⟨2,3,f613⟩),(620, .fn ⟨2,3,f620⟩),(627, .fn ⟨2,8,f627⟩),(632, .fn ⟨2,4,f632⟩),(639, .fn ⟨3,7,f639⟩),(646, .fn ⟨3,8,f646⟩),(651, .fn ⟨3,16,f651⟩),(656, .fn ⟨3,5,f656⟩),(663, .fn ⟨3,5,f663⟩),(670, .fn ⟨3,9,f670⟩),(677, .fn ⟨1,8,f677⟩),(684, .fn ⟨2,9,f684⟩),(691, .fn ⟨3,1,f691⟩),(698, .fn ⟨2,2,f698⟩),(705, .fn ⟨1,2,f705⟩),(710, .fn ⟨2,5,f710⟩),(715, .fn ⟨3,8,f715⟩),(720, .fn ⟨2,4,f720⟩),(727, .fn ⟨4,9,f727⟩),(732, .fn ⟨8,15,f732⟩),(737, .fn ⟨1,8,f737⟩),(744, .fn ⟨2,0,f744⟩),(751, .fn ⟨1,3,f751⟩),(756, .fn ⟨1,2,f756⟩),(766, .fn ⟨3,6,f766⟩),(771, .fn ⟨4,18,f771⟩),(776, .fn ⟨1,0,f776⟩),(781, .fn ⟨3,14,f781⟩),(786, .fn ⟨1,1,f786⟩),(793, .fn ⟨2,3,f793⟩),(798, .fn ⟨2,2,f798⟩),(195, .cls ⟨1,[],f195⟩),(217, .cls ⟨2,[.bool false],f217⟩),(266, .cls ⟨2,[],f266⟩),(375, .cls ⟨2,[.none, .none],f375⟩),(468, .cls ⟨6,[],f468⟩),(489, .cls ⟨0,[],f489⟩)]
end Mine
end
section
namespace Mine
open PySem PySem.W PySem.Calls PyProof.Rows PySem.SeqAt
noncomputable def theBody:List Stmt:=PySem.Challenge.pw_pb0500_01.main.body
noncomputable def look:List (Nat × En)→Nat→Option En
 | [],_=>none
 | p::r,a=>bif Nat.beq p.1 a then some p.2 else look r a
noncomputable def theT (a:Addr):Option En:=look tl a
end Mine
end
section
namespace Mine
open PySem
theorem cl_ex:∃f:Nat→Bool→(Hp→Prop)→Addr→List MV→Po MV→Hp→Prop,f=callN theT:=⟨_,rfl⟩
noncomputable def cl:Nat→Bool→(Hp→Prop)→Addr→List MV→Po MV→Hp→Prop:=Classical.choose cl_ex
theorem cl_eq:cl=callN theT:=Classical.choose_spec cl_ex
noncomputable def KF (n:Nat)(hd:Bool)(E:Hp→Prop)(Q:Po MV):Kx:=⟨cl n,E,hd,Q,fun _ _=>False⟩
noncomputable def run (f:Cs)(l:Loc)(n:Nat)(hd:Bool)(E:Hp→Prop)(Q:Po MV)(H:Hp):Prop:=f (KF n hd E Q) (fun _=>Q .none) l H
section
variable {n:Nat}{hd:Bool}{E:Hp→Prop}{Q:Po MV}{H:Hp}{a b c d e f g h:MV}{t:Nat}
theorem cl_fn {x:Addr}{vs:List MV}{fc:FC}(e:theT x=some (.fn fc))(hl:vs.length=fc.np)(hb:run fc.body (vs.map some ++ List.replicate fc.k none) n hd E Q H):cl (n+1) hd E x vs Q H:=by
 have q:fc.body ⟨callN theT n,E,hd,Q,fun _ _=>False⟩ (fun _=>Q .none) (vs.map some ++ List.replicate fc.k none) H:=by
  rw [← cl_eq];exact hb
 rw [cl_eq]
 show oM (theT x) _
 rw [e]
 exact ⟨hl,q⟩
theorem cl_cls {x:Addr}{vs:List MV}{cc:CC}(e:theT x=some (.cls cc))(h1:vs.length≤cc.np)(h2:cc.np≤vs.length+cc.dflts.length)(hb:evs cc.fs ⟨cl n,noE,hd,fun _ _=>False,fun _ _=>False⟩ (none::(vs ++ cc.dflts.drop (vs.length+cc.dflts.length - cc.np)).map some) (fun fs=>Q (.inst x fs)) H):cl (n+1) hd E x vs Q H:=by
 rw [cl_eq] at hb ⊢
 show oM (theT x) _
 rw [e]
 exact ⟨h1,h2,hb⟩
theorem in277 (q:run f277 [some a,none,none,none,none,none,none,none,none,none,none,none] n hd E Q H):cl (n+1) hd E 277 [a] Q H:=cl_fn rfl rfl q
theorem in284 (q:run f284 [some a,some b,none] n hd E Q H):cl (n+1) hd E 284 [a,b] Q H:=cl_fn rfl rfl q
theorem in289 (q:run f289 [some a,none,none,none,none,none,none,none] n hd E Q H):cl (n+1) hd E 289 [a] Q H:=cl_fn rfl rfl q
theorem in311 (q:run f311 [some a,some b,none,none,none,none,none,none,none,none] n hd E Q H):cl (n+1) hd E 311 [a,b] Q H:=cl_fn rfl rfl q
theorem in318 (q:run f318 [some a,some b,some c] n hd E Q H):cl (n+1) hd E 318 [a,b,c] Q H:=cl_fn rfl rfl q
theorem in339 (q:run f339 [some a,some b,some c,some d] n hd E Q H):cl (n+1) hd E 339 [a,b,c,d] Q H:=cl_fn rfl rfl q
theorem in346 (q:run f346 [some a,some b,none,none] n hd E Q H):cl (n+1) hd E 346 [a,b] Q H:=cl_fn rfl rfl q
theorem in360 (q:run f360 [some a,none] n hd E Q H):cl (n+1) hd E 360 [a] Q H:=cl_fn rfl rfl q
theorem in367 (q:run f367 [some a,none,none,none] n hd E Q H):cl (n+1) hd E 367 [a] Q H:=cl_fn rfl rfl q
theorem in372 (q:run f372 [some a,none,none,none] n hd E Q H):cl (n+1) hd E 372 [a] Q H:=cl_fn rfl rfl q
theorem in398 (q:run f398 [some a,none,none,none] n hd E Q H):cl (n+1) hd E 398 [a] Q H:=cl_fn rfl rfl q
theorem in405 (q:run f405 [some a,none,none,none] n hd E Q H):cl (n+1) hd E 405 [a] Q H:=cl_fn rfl rfl q
theorem in424 (q:run f424 [some a,none,none,none,none,none,none] n hd E Q H):cl (n+1) hd E 424 [a] Q H:=cl_fn rfl rfl q
theorem in429 (q:run f429 [some a,none,none,none,none,none,none,none] n hd E Q H):cl (n+1) hd E 429 [a] Q H:=cl_fn rfl rfl q
theorem in436 (q:run f436 [some a,some b,none,none,none] n hd E Q H):cl (n+1) hd E 436 [a,b] Q H:=cl_fn rfl rfl q
theorem in443 (q:run f443 [some a,some b,none,none,none,none,none,none,none] n hd E Q H):cl (n+1) hd E 443 [a,b] Q H:=cl_fn rfl rfl q
theorem in450 (q:run f450 [some a,some b,some c] n hd E Q H):cl (n+1) hd E 450 [a,b,c] Q H:=cl_fn rfl rfl q
theorem in500 (q:run f500 [some a,none] n hd E Q H):cl (n+1) hd E 500 [a] Q H:=cl_fn rfl rfl q
theorem in507 (q:run f507 [some a,some b,none] n hd E Q H):cl (n+1) hd E 507 [a,b] Q H:=cl_fn rfl rfl q
theorem in514 (q:run f514 [some a,some b,some c,none,none,none,none] n hd E Q H):cl (n+1) hd E 514 [a,b,c] Q H:=cl_fn rfl rfl q
theorem in521 (q:run f521 [some a,some b,none,none] n hd E Q H):cl (n+1) hd E 521 [a,b] Q H:=cl_fn rfl rfl q
theorem in528 (q:run f528 [some a,some b,some c,none,none] n hd E Q H):cl (n+1) hd E 528 [a,b,c] Q H:=cl_fn rfl rfl q
theorem in535 (q:run f535 [some a,none,none,none] n hd E Q H):cl (n+1) hd E 535 [a] Q H:=cl_fn rfl rfl q
theorem in542 (q:run f542 [some a,some b,some c,none,none,none,none] n hd E Q H):cl (n+1) hd E 542 [a,b,c] Q H:=cl_fn rfl rfl q
theorem in549 (q:run f549 [some a,some b,none,none,none,none] n hd E Q H):cl (n+1) hd E 549 [a,b] Q H:=cl_fn rfl rfl q
theorem in556 (q:run f556 [some a,some b] n hd E Q H):cl (n+1) hd E 556 [a,b] Q H:=cl_fn rfl rfl q
theorem in563 (q:run f563 [some a,some b,none,none,none,none,none,none,none] n hd E Q H):cl (n+1) hd E 563 [a,b] Q H:=cl_fn rfl rfl q
theorem in570 (q:run f570 [some a,some b,none,none,none] n hd E Q H):cl (n+1) hd E 570 [a,b] Q H:=cl_fn rfl rfl q
theorem in577 (q:run f577 [some a,some b,some c,none,none,none,none,none,none] n hd E Q H):cl (n+1) hd E 577 [a,b,c] Q H:=cl_fn rfl rfl q
theorem in584 (q:run f584 [some a,some b,none,none,none,none] n hd E Q H):cl (n+1) hd E 584 [a,b] Q H:=cl_fn rfl rfl q
theorem in589 (q:run f589 [some a,some b,some c,some d,some e,none,none,none,none] n hd E Q H):cl (n+1) hd E 589 [a,b,c,d,e] Q H:=cl_fn rfl rfl q
theorem in594 (q:run f594 [some a,none,none,none,none,none,none,none,none,none,none,none,none,none,none,none,none,none,none,none,none,none,none,none,none,none,none,none] n hd E Q H):cl (n+1) hd E 594 [a] Q H:=cl_fn rfl rfl q
theorem in601 (q:run f601 [some a,none] n hd E Q H):cl (n+1) hd E 601 [a] Q H:=cl_fn rfl rfl q
theorem in606 (q:run f606 [some a,some b,none,none,none,none] n hd E Q H):cl (n+1) hd E 606 [a,b] Q H:=cl_fn rfl rfl q
theorem in613 (q:run f613 [some a,some b,none,none,none] n hd E Q H):cl (n+1) hd E 613 [a,b] Q H:=cl_fn rfl rfl q
theorem in620 (q:run f620 [some a,some b,none,none,none] n hd E Q H):cl (n+1) hd E 620 [a,b] Q H:=cl_fn rfl rfl q
theorem in627 (q:run f627 [some a,some b,none,none,none,none,none,none,none,none] n hd E Q H):cl (n+1) hd E 627 [a,b] Q H:=cl_fn rfl rfl q
theorem in632 (q:run f632 [some a,some b,none,none,none,none] n hd E Q H):cl (n+1) hd E 632 [a,b] Q H:=cl_fn rfl rfl q
theorem in639 (q:run f639 [some a,some b,some c,none,none,none,none,none,none,none] n hd E Q H):cl (n+1) hd E 639 [a,b,c] Q H:=cl_fn rfl rfl q
theorem in646 (q:run f646 [some a,some b,some c,none,none,none,none,none,none,none,none] n hd E Q H):cl (n+1) hd E 646 [a,b,c] Q H:=cl_fn rfl rfl q
theorem in651 (q:run f651 [some a,some b,some c,none,none,none,none,none,none,none,none,none,none,none,none,none,none,none,none] n hd E Q H):cl (n+1) hd E 651 [a,b,c] Q H:=cl_fn rfl rfl q
theorem in656 (q:run f656 [some a,some b,some c,none,none,none,none,none] n hd E Q H):cl (n+1) hd E 656 [a,b,c] Q H:=cl_fn rfl rfl q
theorem in663 (q:run f663 [some a,some b,some c,none,none,none,none,none] n hd E Q H):cl (n+1) hd E 663 [a,b,c] Q H:=cl_fn rfl rfl q
theorem in670 (q:run f670 [some a,some b,some c,none,none,none,none,none,none,none,none,none] n hd E Q H):cl (n+1) hd E 670 [a,b,c] Q H:=cl_fn rfl rfl q
theorem in677 (q:run f677 [some a,none,none,none,none,none,none,none,none] n hd E Q H):cl (n+1) hd E 677 [a] Q H:=cl_fn rfl rfl q
theorem in684 (q:run f684 [some a,some b,none,none,none,none,none,none,none,none,none] n hd E Q H):cl (n+1) hd E 684 [a,b] Q H:=cl_fn rfl rfl q
theorem in691 (q:run f691 [some a,some b,some c,none] n hd E Q H):cl (n+1) hd E 691 [a,b,c] Q H:=cl_fn rfl rfl q
theorem in698 (q:run f698 [some a,some b,none,none] n hd E Q H):cl (n+1) hd E 698 [a,b] Q H:=cl_fn rfl rfl q
theorem in705 (q:run f705 [some a,none,none] n hd E Q H):cl (n+1) hd E 705 [a] Q H:=cl_fn rfl rfl q
theorem in710 (q:run f710 [some a,some b,none,none,none,none,none] n hd E Q H):cl (n+1) hd E 710 [a,b] Q H:=cl_fn rfl rfl q
theorem in715 (q:run f715 [some a,some b,some c,none,none,none,none,none,none,none,none] n hd E Q H):cl (n+1) hd E 715 [a,b,c] Q H:=cl_fn rfl rfl q
theorem in720 (q:run f720 [some a,some b,none,none,none,none] n hd E Q H):cl (n+1) hd E 720 [a,b] Q H:=cl_fn rfl rfl q
theorem in727 (q:run f727 [some a,some b,some c,some d,none,none,none,none,none,none,none,none,none] n hd E Q H):cl (n+1) hd E 727 [a,b,c,d] Q H:=cl_fn rfl rfl q
theorem in732 (q:run f732 [some a,some b,some c,some d,some e,some f,some g,some h,none,none,none,none,none,none,none,none,none,none,none,none,none,none,none] n hd E Q H):cl (n+1) hd E 732 [a,b,c,d,e,f,g,h] Q H:=cl_fn rfl rfl q
theorem in737 (q:run f737 [some a,none,none,none,none,none,none,none,none] n hd E Q H):cl (n+1) hd E 737 [a] Q H:=cl_fn rfl rfl q
theorem in744 (q:run f744 [some a,some b] n hd E Q H):cl (n+1) hd E 744 [a,b] Q H:=cl_fn rfl rfl q
theorem in751 (q:run f751 [some a,none,none,none] n hd E Q H):cl (n+1) hd E 751 [a] Q H:=cl_fn rfl rfl q
theorem in756 (q:run f756 [some a,none,none] n hd E Q H):cl (n+1) hd E 756 [a] Q H:=cl_fn rfl rfl q
theorem in766 (q:run f766 [some a,some b,some c,none,none,none,none,none,none] n hd E Q H):cl (n+1) hd E 766 [a,b,c] Q H:=cl_fn rfl rfl q
theorem in771 (q:run f771 [some a,some b,some c,some d,none,none,none,none,none,none,none,none,none,none,none,none,none,none,none,none,none,none] n hd E Q H):cl (n+1) hd E 771 [a,b,c,d] Q H:=cl_fn rfl rfl q
theorem in776 (q:run f776 [some a] n hd E Q H):cl (n+1) hd E 776 [a] Q H:=cl_fn rfl rfl q
theorem in781 (q:run f781 [some a,some b,some c,none,none,none,none,none,none,none,none,none,none,none,none,none,none] n hd E Q H):cl (n+1) hd E 781 [a,b,c] Q H:=cl_fn rfl rfl q
theorem in786 (q:run f786 [some a,none] n hd E Q H):cl (n+1) hd E 786 [a] Q H:=cl_fn rfl rfl q
theorem in793 (q:run f793 [some a,some b,none,none,none] n hd E Q H):cl (n+1) hd E 793 [a,b] Q H:=cl_fn rfl rfl q
theorem in798 (q:run f798 [some a,some b,none,none] n hd E Q H):cl (n+1) hd E 798 [a,b] Q H:=cl_fn rfl rfl q
theorem mk195 (q:Q (.inst 195 [a]) H):cl (n+1) hd E 195 [a] Q H:=cl_cls rfl (Nat.le_of_ble_eq_true rfl) (Nat.le_of_ble_eq_true rfl) q
theorem mk217 (q:Q (.inst 217 [a, .bool false]) H):cl (n+1) hd E 217 [a] Q H:=cl_cls rfl (Nat.le_of_ble_eq_true rfl) (Nat.le_of_ble_eq_true rfl) q
theorem mk266 (q:Q (.inst 266 [a,b]) H):cl (n+1) hd E 266 [a,b] Q H:=cl_cls rfl (Nat.le_of_ble_eq_true rfl) (Nat.le_of_ble_eq_true rfl) q
theorem mk468 (q:Q (.inst 468 [a,b,c,d,e,f]) H):cl (n+1) hd E 468 [a,b,c,d,e,f] Q H:=cl_cls rfl (Nat.le_of_ble_eq_true rfl) (Nat.le_of_ble_eq_true rfl) q
theorem mk375 (q:Q (.inst 375 [.ref H.length, .ref (H ++ [cD []]).length]) ((H ++ [cD []]) ++ [cD []])):cl (n+1) hd E 375 [] Q H:=cl_cls rfl (Nat.le_of_ble_eq_true rfl) (Nat.le_of_ble_eq_true rfl) ⟨rfl,Nat.zero_le _,rfl,Nat.zero_le _,q⟩
theorem mk375' {es:Dict}(q:Q (.inst 375 [.dct es, .ref t]) H):cl (n+1) hd E 375 [.dct es, .ref t] Q H:=cl_cls rfl (Nat.le_of_ble_eq_true rfl) (Nat.le_of_ble_eq_true rfl) ⟨rfl,rfl,q⟩
theorem mk489 (q:Q (.inst 489 [.ref H.length, .ref (H ++ [cL []]).length, .ref ((H ++ [cL []]) ++ [cL []]).length]) (((H ++ [cL []]) ++ [cL []]) ++ [cD []])):cl (n+1) hd E 489 [] Q H:=cl_cls rfl (Nat.le_of_ble_eq_true rfl) (Nat.le_of_ble_eq_true rfl) ⟨Nat.zero_le _,Nat.zero_le _,Nat.zero_le _,q⟩
end
end Mine
end
section
namespace Mine
open PySem
structure Ext (H H':Hp):Prop where
 le:H.length≤H'.length
 at':∀i,i < H.length→H'[i]?=H[i]?
theorem at_lt {H:Hp}{i:Nat}{c:Cell}(h:H[i]?=some c):i < H.length:=(List.getElem?_eq_some_iff.mp h).1
section
variable {H H' H1 H2:Hp}{c c':Cell}{i j k:Nat}
theorem Ext.rfl':Ext H H:=⟨Nat.le_refl _,fun _ _=>rfl⟩
theorem Ext.tr (a:Ext H H1)(b:Ext H1 H2):Ext H H2:=⟨Nat.le_trans a.le b.le,fun i h=>(b.at' i (Nat.lt_of_lt_of_le h a.le)).trans (a.at' i h)⟩
theorem Ext.get (e:Ext H H')(h:H[i]?=some c):H'[i]?=some c:=(e.at' _ (at_lt h)).trans h
theorem Ext.al (e:Ext H H'):Ext H (H' ++ [c]):=⟨by rw [List.length_append];exact Nat.le_trans e.le (Nat.le_add_right ..),fun i h=>(List.getElem?_append_left (Nat.lt_of_lt_of_le h e.le)).trans (e.at' i h)⟩
theorem Ext.st (e:Ext H H')(hk:H.length≤k):Ext H (H'.set k c):=⟨by rw [List.length_set];exact e.le,fun i h=>(List.getElem?_set_ne (Nat.ne_of_gt (Nat.lt_of_lt_of_le h hk))).trans (e.at' i h)⟩
theorem at_new:(H ++ [c])[H.length]?=some c:=List.getElem?_concat_length
theorem at_set (h:H[i]?=some c):(H.set i c')[i]?=some c':=List.getElem?_set_self (at_lt h)
theorem at_ne (h:H[i]?=some c)(n:j≠i):(H.set j c')[i]?=some c:=(List.getElem?_set_ne n).trans h
theorem at_app (h:H[i]?=some c):(H ++ [c'])[i]?=some c:=(List.getElem?_append_left (at_lt h)).trans h
end
structure View where
 p:Hp→Prop
 mono:∀ {H H'},Ext H H'→p H→p H'
noncomputable def vAll:View:=⟨fun _=>True,fun _ _=>trivial⟩
noncomputable def cellV (i:Nat)(c:Cell):View:=⟨fun H=>H[i]?=some c,fun e h=>e.get h⟩
noncomputable def both (V W:View):View:=⟨fun H=>V.p H∧W.p H,fun e h=>⟨V.mono e h.1,W.mono e h.2⟩⟩
noncomputable def Ev (V:View)(P:Hp→Prop)(H:Hp):Prop:=V.p H∧∀H',Ext H H'→V.p H'→P H'
noncomputable def Rd {α:Type}(V:View)(m:Po α→Hp→Prop)(v:α):Prop:=∀Q H,Ev V (Q v) H→m Q H
noncomputable def Th {α:Type}(V:View)(m:(Hp→Prop)→Po α→Hp→Prop):Prop:=∀E Q H,Ev V E H→m E Q H
section
variable {α:Type}{V W:View}{P:Hp→Prop}{H H':Hp}{m:Po α→Hp→Prop}{v:α}{Q:Po α}{k:Nat}{c:Cell}
theorem Ev.now (h:Ev V P H):P H:=h.2 H .rfl' h.1
theorem Ev.ex (h:Ev V P H)(e:Ext H H'):P H':=h.2 H' e (V.mono e h.1)
theorem Ev.to (h:Ev V P H)(e:Ext H H'):Ev V P H':=⟨V.mono e h.1,fun H2 e2=>h.2 H2 (e.tr e2)⟩
theorem Rd.run (r:Rd V m v)(p:V.p H)(h:∀H2,Ext H H2→Q v H2):m Q H:=r Q H ⟨p,fun H2 e _=>h H2 e⟩
theorem Rd.ev (r:Rd V m v)(h:Ev V (Q v) H):Ev V (m Q) H:=⟨h.1,fun H' e p=>r Q H' (h.to e)⟩
theorem Rd.weak (r:Rd W m v)(h:∀H,V.p H→W.p H):Rd V m v:=fun Q H q=>r.run (h H q.1) fun H2 e=>q.ex e
theorem Rd.own (r:Rd V m v)(p:V.p H)(e:Ext H H')(hc:H'[k]?=some c)(h:∀H2,Ext H H2→H2[k]?=some c→Q v H2):m Q H':=
 r Q H' ⟨V.mono e p,fun H2 e2 _=>h H2 (e.tr e2) (e2.get hc)⟩
end
theorem forL_inv {f:MV→(Loc→Hp→Prop)→Loc→Hp→Prop}(I:List MV→Loc→Hp→Prop){N:Loc→Hp→Prop}(hf:∀x xs l H,I (x::xs) l H→∀N',(∀l H,I xs l H→N' l H)→f x N' l H)(hN:∀l H,I [] l H→N l H){xs:List MV}:∀ {l H},I xs l H→forL f xs N l H:=by
 induction xs with
 | nil=>exact fun i=>hN _ _ i
 | cons x xs ih=>exact fun i=>hf x xs _ _ i _ fun l' H' i'=>ih i'
theorem each_rd {τ:Type}{V:View}{f:MV→Po (List τ)→Hp→Prop}{g:MV→List τ}{xs:List MV}(h:∀x∈xs,Rd V (f x) (g x)):Rd V (eachM f xs) (xs.flatMap g):=by
 induction xs with
 | nil=>exact fun Q H q=>q.now
 | cons x xs ih=>exact fun Q H q=>h x (.head _) _ H ((ih fun y hy=>h y (.tail _ hy)).ev (Q:=fun zs=>Q (g x ++ zs)) q)
theorem flat_map {α β γ:Type}(f:α→β)(g:β→γ)(xs:List α):(xs.map f).flatMap (fun x=>[g x]) =xs.map fun x=>g (f x):=by
 induction xs with
 | nil=>rfl
 | cons x xs ih=>exact congrArg (g (f x) :: ·) ih
section
variable {α:Type}{es d:List (Key × α)}{k k':Key}{v:α}
theorem look_t {e:Key × α}(q:e.1=k):dlook (e::es) k=some e.2:=find_t q
theorem look_f {e:Key × α}(q:¬ e.1=k):dlook (e::es) k=dlook es k:=find_f q
theorem look_app (l:List (Key × α)):dlook (l ++ es) k= (dlook l k).or (dlook es k):=by
 induction l with
 | nil=>rfl
 | cons e l ih=>
  by_cases q:e.1=k
  ·rw [List.cons_append,look_t q,look_t q];rfl
  ·rw [List.cons_append,look_f q,look_f q];exact ih
theorem any_look:es.any (fun e=>e.1=k) = (dlook es k).isSome:=by
 induction es with
 | nil=>rfl
 | cons e l ih=>
  by_cases q:e.1=k
  ·rw [look_t q,List.any_cons];simp [q]
  ·rw [look_f q,← ih,List.any_cons];simp [q]
theorem look_map:dlook (es.map fun e=>if e.1=k then (e.1,v) else e) k'=if k=k' then (dlook es k').map (fun _=>v) else dlook es k':=by
 induction es with
 | nil=>by_cases q:k=k' <;> simp [q,dlook]
 | cons e l ih=>
  rw [List.map_cons]
  by_cases h1:e.1=k
  ·rw [if_pos h1]
   by_cases h2:k=k'
   ·rw [if_pos h2] at ih ⊢;rw [look_t (e:=(e.1,v)) (h1.trans h2),look_t (h1.trans h2)];rfl
   ·rw [if_neg h2] at ih ⊢;rw [look_f (e:=(e.1,v)) (fun q=>h2 (h1.symm.trans q)),look_f (fun q=>h2 (h1.symm.trans q)),ih]
  ·rw [if_neg h1]
   by_cases h3:e.1=k'
   ·have h2:¬ k=k':=fun q=>h1 (h3.trans q.symm)
    rw [if_neg h2,look_t h3,look_t h3]
   ·rw [look_f h3,ih,look_f h3]
theorem look_put:dlook (dput es k v) k'=if k=k' then some v else dlook es k':=by
 unfold dput
 rw [any_look]
 cases h:dlook es k with
 | some u=>
  rw [if_pos (show (some u).isSome=true from rfl),look_map]
  by_cases q:k=k'
  ·subst q;rw [if_pos rfl,if_pos rfl,h];rfl
  ·rw [if_neg q,if_neg q]
 | none=>
  rw [if_neg (show ¬ (Option.none:Option α).isSome=true from nofun),look_app]
  by_cases q:k=k'
  ·subst q;rw [if_pos rfl,h,look_t (e:=(k,v)) rfl];rfl
  ·rw [if_neg q,look_f (e:=(k,v)) q];cases dlook es k' <;> rfl
theorem put_same:dlook (dput es k v) k=some v:=by rw [look_put,if_pos rfl]
theorem put_other (n:k≠k'):dlook (dput es k v) k'=dlook es k':=by rw [look_put,if_neg n]
theorem dput_new (h:dlook es k=none):dput es k v=es ++ [(k,v)]:=by
 unfold dput;rw [any_look,h];rfl
theorem look_none:dlook es k=none↔∀e∈es,e.1≠k:=by
 induction es with
 | nil=>exact ⟨fun _=>nofun,fun _=>rfl⟩
 | cons e l ih=>
  by_cases q:e.1=k
  ·rw [look_t q];exact ⟨nofun,fun h=>absurd q (h e (.head _))⟩
  ·rw [look_f q,ih];exact ⟨fun h e' he=>(List.mem_cons.mp he).elim (fun w=>by rw [w];exact q) (h e'),fun h e' he=>h e' (.tail _ he)⟩
theorem look_mem (h:dlook es k=some v):(k,v)∈es:=by
 induction es with
 | nil=>cases h
 | cons e l ih=>
  by_cases q:e.1=k
  ·rw [look_t q] at h;cases h;rw [← q];exact .head _
  ·rw [look_f q] at h;exact .tail _ (ih h)
noncomputable abbrev NoDupK {α:Type}(d:List (Key × α)):Prop:=(d.map (·.1)).Nodup
theorem look_of_mem (hd:NoDupK es)(h:(k,v)∈es):dlook es k=some v:=by
 induction es with
 | nil=>cases h
 | cons e l ih=>
  have hn:=List.nodup_cons.mp hd
  rcases List.mem_cons.mp h with rfl | h
  ·exact look_t rfl
  ·rw [look_f fun q=>hn.1 (by show e.1∈_;rw [q];exact List.mem_map.mpr ⟨_,h,rfl⟩)];exact ih hn.2 h
end
end Mine
end
section
namespace Mine
open PySem
noncomputable def shv (t tr:Nat):MV:= .inst 375 [.ref t, .ref tr]
noncomputable def rf (n:Int):MV:= .inst 266 [.int n, .int 0]
noncomputable def nmv (s:Str):MV:= .inst 195 [.str s]
noncomputable def sg (b:List UInt8):MV:= .inst 217 [.bytes b, .bool false]
noncomputable def leafV (a b c d e f:MV):MV:= .inst 468 [a,b,c,d,e,f]
noncomputable abbrev Tab:=List (Int × Dict)
noncomputable def rowE (p:Int × Dict):Key × MV:=(Sum.inl p.1, .tup [.int 0, .dct p.2])
noncomputable def tabE (T:Tab):Dict:=T.map rowE
noncomputable def tget:Tab→Int→Option Dict
 | [],_=>none
 | p::T,n=>if p.1=n then some p.2 else tget T n
theorem look_tab {T:Tab}{n:Int}:dlook (tabE T) (.inl n) = (tget T n).map fun d=> .tup [.int 0, .dct d]:=by
 induction T with
 | nil=>rfl
 | cons p T ih=>
  show dlook (rowE p::tabE T) _=Option.map _ (if p.1=n then some p.2 else tget T n)
  by_cases q:p.1=n
  ·rw [if_pos q];exact look_t (e:=rowE p) (congrArg Sum.inl q)
  ·rw [if_neg q];exact (look_f (e:=rowE p) (fun w=>q (Sum.inl.inj w))).trans ih
noncomputable def sees (t tr:Nat)(T:Tab):View:=both (cellV t (cD (tabE T))) (cellV tr (cD [(.inr "Root",rf 1)]))
noncomputable def plainV (v:MV):Prop:=match v with
 | .inst k _=>k=195∨k=217
 | .ref _=>False
 | _=>True
section
variable {V:View}{t tr n:Nat}{hd:Bool}{E:Hp→Prop}{v:MV}{H:Hp}{h d form:Dict}{x:Str}{T:Tab}{k:Int}
theorem sp_fetch {u:MV}(e:u=v)(h:plainV v):Rd V (cl (n+1) false E 311 [shv t tr,u]) v:=fun Q H q=>in311 (by
 subst e
 cases u with
 | inst k fs=>
  rcases h with rfl | rfl
  ·exact ⟨rfl,by decide,by decide,q.now⟩
  ·exact ⟨rfl,by decide,by decide,q.now⟩
 | ref a=>exact h.elim
 | _=>exact ⟨rfl,by decide,by decide,q.now⟩)
theorem asTup_of {u:MV}{us:List MV}{P:List MV→Prop}(e:u= .tup us)(q:P us):asTup u P:=by subst e;exact q
theorem sp_fetch_ref {u:MV}(eu:u=rf k)(h:tget T k=some d):Rd (sees t tr T) (cl (n+1) false E 311 [shv t tr,u]) (.dct d):=fun Q H q=>by
 subst eu
 have e:(dlook (tabE T) (.inl k)).getD (.tup [.int (-1), .none]) = .tup [.int 0, .dct d]:=by rw [look_tab,h];rfl
 exact in311 ⟨rfl,by decide,by decide,_,q.1.1,_,q.1.1,rfl,asTup_of e q.now⟩
theorem sp_get (hv:(dlook h (.inr x)).getD .none=v)(hp:plainV v):Rd V (cl (n+2) false E 318 [shv t tr, .dct h, .str x]) v:=fun Q H q=>in318 (sp_fetch hv hp Q H q)
theorem sp_get_ref (hv:(dlook h (.inr x)).getD .none=rf k)(hd:tget T k=some d):Rd (sees t tr T) (cl (n+2) false E 318 [shv t tr, .dct h, .str x]) (.dct d):=fun Q H q=>in318 (sp_fetch_ref hv hd Q H q)
theorem get_some {es:Dict}{k:Key}(h:dlook es k=some v):(dlook es k).getD .none=v:=congrArg (Option.getD · MV.none) h
theorem get_none {es:Dict}{k:Key}(h:dlook es k=none):(dlook es k).getD .none= .none:=congrArg (Option.getD · MV.none) h
theorem sp_root (hd:tget T 1=some d):Rd (sees t tr T) (cl (n+3) false E 367 [shv t tr]) (.dct d):=fun Q H q=>in367 (in318 ⟨_,q.1.2,_,q.1.2,(sp_fetch_ref rfl hd).run q.1 fun H2 e=>q.ex e⟩)
inductive FormAt (T:Tab)(d form:Dict):Prop
 | here:tget T 1=some d→dlook d (.inr "AcroForm") =some (.dct form)→FormAt T d form
 | far (k:Int):tget T 1=some d→dlook d (.inr "AcroForm") =some (rf k)→tget T k=some form→FormAt T d form
theorem sp_row {xs:List MV}(hv:(dlook h (.inr x)).getD .none= .lst xs∨dlook h (.inr x) =none∧xs= []):Rd V (cl (n+3) false E 542 [shv t tr, .dct h, .str x]) (.lst xs):=fun Q H q=>in542 (by
 rcases hv with hv | ⟨hv,rfl⟩
 ·exact (sp_get hv trivial).run q.1 fun H2 e=>⟨rfl,q.ex e⟩
 ·exact (sp_get (get_none hv) trivial).run q.1 fun H2 e=>⟨rfl,Nat.zero_le _,q.ex e⟩)
theorem sp_form (hf:FormAt T d form):Rd (sees t tr T) (cl (n+4) false E 535 [shv t tr]) (.dct form):=fun Q H q=>by
 obtain ⟨h1,h2⟩ | ⟨k,h1,h2,h3⟩:=hf
 ·exact in535 ((sp_root h1).run q.1 fun H2 e=>(sp_get (get_some h2) trivial).run ((sees t tr T).mono e q.1) fun H3 e3=>q.ex (e.tr e3))
 ·exact in535 ((sp_root h1).run q.1 fun H2 e=>(sp_get_ref (get_some h2) h3).run ((sees t tr T).mono e q.1) fun H3 e3=>q.ex (e.tr e3))
theorem sp_whole {i:Option Int}(hv:(dlook h (.inr x)).getD .none= (i.map MV.int).getD .none):Rd V (cl (n+3) false E 514 [shv t tr, .dct h, .str x]) ((i.map MV.int).getD .none):=fun Q H q=>in514 (by
 cases i with
 | none=>exact (sp_get hv trivial).run q.1 fun H2 e=>q.ex e
 | some i=>exact (sp_get hv trivial).run q.1 fun H2 e=>q.ex e)
noncomputable def fbit (f:Int)(p:Nat):Bool:=(f.fdiv (2 ^ (p - 1))).fmod 2 == 1
noncomputable def placeTab:List (String × Nat):=[("read only",1),("no toggle to off",15),("radio",16),("push",17),("combo",18),("edit",19),("multi select",22),("in unison",26)]
noncomputable def placeD:Dict:=dput (dputs (dputs [] [(.inr "read only", .int 1),(.inr "required", .int 2),(.inr "no export", .int 3),(.inr "multi line", .int 13),(.inr "password", .int 14),(.inr "no toggle to off", .int 15)]) (dputs [] [(.inr "radio", .int 16),(.inr "push", .int 17),(.inr "combo", .int 18),(.inr "edit", .int 19),(.inr "sort", .int 20),(.inr "multi select", .int 22),(.inr "comb", .int 25)])) (.inr "in unison") (.int 26)
theorem places:∀p∈placeTab,dlook placeD (.inr p.1) =some (.int p.2):=by
 have h:placeTab.all (fun p=>match dlook placeD (.inr p.1) with | some (.int i)=>i == p.2 | _=>false) =true:=by decide +kernel
 intro p hp
 have h:=List.all_eq_true.mp h p hp
 revert h
 cases dlook placeD (.inr p.1) with
 | none=>nofun
 | some v=>cases v with
  | int i=>exact fun h=>congrArg (fun i=>some (MV.int i)) (eq_of_beq h)
  | _=>nofun
theorem sp_place {w:String}{p:Nat}(h:(w,p)∈placeTab):Rd V (cl (n+1) false E 500 [.str w]) (.int p):=fun Q H q=>in500
 ⟨by decide +kernel,_,at_new,by decide +kernel,rfl,_,at_new,by decide +kernel,_,at_set at_new,by decide +kernel,_,at_set (at_set at_new),_,places _ h,q.ex ((Ext.rfl'.al.st (Nat.le_refl _)).st (Nat.le_refl _))⟩
theorem place_le:∀p∈placeTab,1≤p.2∧p.2≤26:=by decide +kernel
theorem fdiv_nn {f:Int}{k:Nat}(hf:0≤f):0≤f.fdiv (2 ^ k):=Int.fdiv_nonneg hf (Int.pow_nonneg (by decide))
theorem sp_flag {f:Int}{w:String}{p:Nat}(h:(w,p)∈placeTab)(hf:0≤f):Rd V (cl (n+2) false E 507 [.int f, .str w]) (.bool (fbit f p)):=fun Q H q=>in507 (by
 obtain ⟨h1,h2⟩:=place_le _ h
 have e1:((p:Int) - 1).toNat=p - 1:=Int.toNat_sub p 1
 unfold fbit at q
 rw [← e1] at q
 exact (sp_place h).run q.1 fun H2 e=>⟨hf,by omega,by omega,fdiv_nn hf,rfl,q.ex e⟩)
structure FfOk (h:Dict)(f:Int):Prop where
 nn:0≤f
 at_:dlook h (.inr "Ff") =none∧f=0∨dlook h (.inr "Ff") =some (.int f)
theorem sp_flags {f:Int}(hf:FfOk h f):Rd V (cl (n+4) false E 521 [shv t tr, .dct h]) (.int f):=fun Q H q=>in521 (by
 rcases hf.at_ with ⟨h1,rfl⟩ | h1
 ·exact (sp_whole (i:=none) (get_none h1)).run q.1 fun H2 e=>⟨rfl,q.ex e⟩
 ·exact (sp_whole (i:=some f) (get_some h1)).run q.1 fun H2 e=>⟨rfl,q.ex e⟩)
theorem sp_has {f:Int}{w:String}{p:Nat}{a b c d e:MV}(hf:FfOk h f)(hw:(w,p)∈placeTab):Rd V (cl (n+5) false E 528 [shv t tr,leafV a b c d (.dct h) e, .str w]) (.bool (fbit f p)):=fun Q H q=>
 in528 ((sp_flags hf).run q.1 fun H2 e=>(sp_flag hw hf.nn).run (V.mono e q.1) fun H3 e3=>q.ex (e.tr e3))
noncomputable def textS (b:List UInt8):Str:=⟨(b.map UInt8.toNat).toArray⟩
noncomputable def plainB (b:List UInt8):Prop:=(∀o∈b,32≤o.toNat∧o.toNat < 127)∧b.length≤1000
theorem bif_f {b:Bool}{x y:Prop}(e:b=false)(q:y):cond b x y:=by subst e;exact q
theorem bif_t {b:Bool}{x y:Prop}(e:b=true)(q:x):cond b x y:=by subst e;exact q
theorem bF {b:Bool}{f g:Hp→Prop}{H:Hp}(e:b=false)(q:g H):cond b f g H:=by subst e;exact q
theorem bT {b:Bool}{f g:Hp→Prop}{H:Hp}(e:b=true)(q:f H):cond b f g H:=by subst e;exact q
theorem sp_sign {o:Int}(h:32≤o∧o < 127):Rd V (cl (n+1) hd E 398 [.int o]) (.int o):=fun Q H q=>in398 (by
 have e1:([.int 9, .int 10, .int 13]:List MV).any (fun y=>eqB y (.int o)) =false:=by
  have a1:((9:Int) == o) =false:=beq_eq_false_iff_ne.mpr (by omega)
  have a2:((10:Int) == o) =false:=beq_eq_false_iff_ne.mpr (by omega)
  have a3:((13:Int) == o) =false:=beq_eq_false_iff_ne.mpr (by omega)
  show ((9:Int) == o || ((10:Int) == o || ((13:Int) == o || false))) =false
  rw [a1,a2,a3];rfl
 exact ⟨⟨trivial,trivial,trivial,trivial⟩,bF e1 (bif_t (decide_eq_true h.1) (bT (decide_eq_true h.2) q.now))⟩)
end
end Mine
end
section
namespace Mine
open PySem
section
variable {V:View}{t tr n:Nat}{hd:Bool}{E:Hp→Prop}{v:MV}{H:Hp}{h d form:Dict}{x:Str}{T:Tab}{k:Int}{b:List UInt8}
theorem no_mark (h:plainB b):([254,255]:List UInt8).isPrefixOf b=false:=by
 cases b with
 | nil=>rfl
 | cons o b=>
  have q:=(h.1 o (.head _)).2
  have e:((254:UInt8) == o) =false:=beq_eq_false_iff_ne.mpr fun w=>by rw [← w] at q;exact absurd q (by decide)
  show ((254:UInt8) == o && _) =false
  rw [e];rfl
noncomputable def oneS (o:UInt8):Str:=⟨#[o.toNat]⟩
theorem join_ones:joinS (b.map oneS) =textS b:=by
 unfold joinS textS
 congr 2
 induction b with
 | nil=>rfl
 | cons o b ih=>exact congrArg (o.toNat:: ·) ih
theorem sum_ones:((b.map oneS).map (·.length)).sum=b.length:=by
 induction b with
 | nil=>rfl
 | cons o b ih=>rw [List.map_cons,List.map_cons,List.sum_cons,ih,List.length_cons,Nat.add_comm];rfl
theorem oct_flat:(b.map octV).flatMap (fun v=>[match v with | .int i=>chrV i.toNat | _=> .none]) = (b.map oneS).map .str:=by
 induction b with
 | nil=>rfl
 | cons o b ih=>exact congrArg (_:: ·) ih
theorem sp_text (h:plainB b):Rd V (cl (n+2) false E 429 [.bytes b]) (.str (textS b)):=fun Q H q=>in429 ⟨rfl,bT (congrArg not (no_mark h)) ⟨rfl,Nat.le_trans h.2 (by decide),(each_rd (V:=V) (g:=fun v=>[match v with | .int i=>chrV i.toNat | _=> .none]) fun x hx Q H q=>by
  obtain ⟨o,ho,rfl⟩:=List.mem_map.mp hx
  have:=h.1 o ho
  exact (sp_sign (o:=o.toNat) ⟨by omega,by omega⟩).run q.1 fun H2 e=>⟨rfl,Int.natCast_nonneg _,by omega,q.ex e⟩).run q.1 fun H2 e=>by
  rw [oct_flat]
  exact ⟨by rw [List.length_map,List.length_map];exact Nat.le_trans h.2 (by decide),rfl,rfl,_,rfl,by rw [sum_ones,List.length_map];exact Nat.le_trans (Nat.add_le_add h.2 h.2) (by decide),by rw [join_ones];exact q.ex e⟩⟩⟩
noncomputable def parts:List (String × UInt8):=[("a",97),("b",98),("c",99)]
theorem part_ok:∀p∈parts,textS [p.2] = (p.1:Str)∧32≤p.2.toNat∧p.2.toNat < 127:=by decide +kernel
theorem part_plain {p:String × UInt8}(h:p∈parts):plainB [p.2]:=⟨fun o ho=>by rw [List.mem_singleton.mp ho];exact (part_ok p h).2,Nat.le_of_ble_eq_true rfl⟩
inductive TnOk (h:Dict)(v:MV):Prop
 | no:dlook h (.inr "T") =none→v= .none→TnOk h v
 | part (p:String × UInt8):p∈parts→dlook h (.inr "T") =some (sg [p.2])→v= .str p.1→TnOk h v
theorem sp_ownname (hv:TnOk h v):Rd V (cl (n+3) false E 549 [shv t tr, .dct h]) v:=fun Q H q=>in549 (by
 cases hv with
 | no h1 e=>subst e;exact (sp_get (get_none h1) trivial).run q.1 fun H2 e=>q.ex e
 | part p hp h1 e=>
  subst e
  exact (sp_get (get_some h1) (.inr rfl)).run q.1 fun H2 e=>(sp_text (part_plain hp)).run (V.mono e q.1) fun H3 e3=>by
   rw [(part_ok p hp).1];exact q.ex (e.tr e3))
noncomputable def dotted (a b:Str):Str:=a ++ (".":Str) ++ b
theorem sp_longer_n {a:MV}:Rd V (cl (n+1) false E 556 [a, .none]) a:=fun Q H q=>in556 ⟨rfl,q.now⟩
theorem sp_longer_0 {b:Str}:Rd V (cl (n+1) false E 556 [.none, .str b]) (.str b):=fun Q H q=>in556 ⟨rfl,rfl,q.now⟩
theorem sp_longer_s {a b:Str}(h:a.length+1+b.length≤1000):Rd V (cl (n+1) false E 556 [.str a, .str b]) (.str (dotted a b)):=fun Q H q=>in556 ⟨rfl,rfl,Nat.le_trans (Nat.le_trans (Nat.le_add_right _ _) h) (by decide),by
 have e:(a ++ (".":Str)).length=a.length+1:=Array.size_append
 exact ⟨by rw [e];exact Nat.le_trans h (by decide),q.now⟩⟩
end
end Mine
end
section
namespace Mine
open PySem
theorem dputs_app {l m:Dict}:∀ {es:Dict},dputs es (l ++ m) =dputs (dputs es l) m:=by
 induction l with
 | nil=>exact fun {es}=>rfl
 | cons e l ih=>exact fun {es}=>ih
structure Half (h:Dict)(xs:List MV)(dn rest:Dict):Prop where
 xs:xs=keysV rest
 all:dn ++ rest=h
theorem Half.start {h:Dict}:Half h (keysV h) [] h:=⟨rfl,rfl⟩
theorem Half.done {h dn rest:Dict}(a:Half h [] dn rest):dn=h:=by
 cases rest with
 | nil=>exact (List.append_nil dn).symm.trans a.all
 | cons e r=>cases a.xs
theorem Half.next {h dn rest:Dict}{x:MV}{xs:List MV}(a:Half h (x::xs) dn rest):∃k v r,x=keyV k∧(k,v)∈h∧dn.length < h.length∧Half h xs (dn ++ [(k,v)]) r:=by
 cases rest with
 | nil=>cases a.xs
 | cons e r=>
  obtain ⟨e1,e2⟩:=List.cons.inj a.xs
  exact ⟨e.1,e.2,r,e1,by rw [← a.all];exact List.mem_append_right _ (.head _),by rw [← a.all,List.length_append];exact Nat.lt_add_of_pos_right (Nat.succ_pos _),e2,(List.append_assoc ..).trans a.all⟩
section
variable {V:View}{t tr n:Nat}{hd:Bool}{E:Hp→Prop}{H:Hp}{h g:Dict}
theorem popD_of {o:Option MV}{A:MV→Prop}{B:Prop}(h1:∀y,o=some y→A y)(h2:o=none→B):popD o A B:=by
 cases o with
 | some y=>exact h1 y rfl
 | none=>exact h2 rfl
noncomputable def turn1 (d:Dict)(e:Key × MV):Dict:=bif isN e.2 then ddel d e.1 else dput d e.1 e.2
noncomputable def turnD (d:Dict)(ch:Dict):Dict:=ch.foldl turn1 d
theorem turnD_app {d l m:Dict}:turnD d (l ++ m) =turnD (turnD d l) m:=List.foldl_append ..
theorem ddel_no {es:Dict}{k:Key}(h:dlook es k=none):ddel es k=es:=List.filter_eq_self.mpr fun e he=>by
 rw [decide_eq_false (look_none.mp h e he)];rfl
theorem turnD_len {ch:Dict}:∀ {d:Dict},(turnD d ch).length≤d.length+ch.length:=by
 induction ch with
 | nil=>exact fun {d}=>Nat.le_refl _
 | cons e ch ih=>
  intro d
  have h:(turn1 d e).length≤d.length+1:=by
   unfold turn1
   cases isN e.2 with
   | true=>exact Nat.le_succ_of_le (List.length_filter_le ..)
   | false=>exact dput_len ..
  exact Nat.le_trans ih (by rw [List.length_cons,Nat.add_comm ch.length,← Nat.add_assoc];exact Nat.add_le_add_right h _)
theorem set_self {H:Hp}{i:Nat}{c:Cell}(h:H[i]?=some c):H.set i c=H:=by
 obtain ⟨h1,h2⟩:=List.getElem?_eq_some_iff.mp h
 rw [← h2];exact List.set_getElem_self h1
theorem sp_turned {ch:Dict}(hd:NoDupK ch)(hl:h.length+ch.length≤900):Rd V (cl (n+1) false E 436 [.dct h, .dct ch]) (.dct (turnD h ch)):=fun Q H q=>in436
 ⟨rfl,Nat.le_trans (Nat.le_trans (Nat.le_add_right _ _) hl) (by decide),rfl,Nat.le_trans (Nat.le_trans (Nat.le_add_left _ _) hl) (by decide),
  forL_inv (fun xs l H'=>∃dn rest u,Half ch xs dn rest∧l= [some (.dct h),some (.dct ch),some (.ref H.length),u,none]∧H'[H.length]?=some (cD (turnD h dn))∧Ext H H') (fun x xs l H' i N' hN=>by
   obtain ⟨dn,rest,u,a,rfl,hc,e⟩:=i
   obtain ⟨k,v,r,rfl,hm,lt,a⟩:=a.next
   have hk:=look_of_mem hd hm
   have hlen:(turnD h dn).length < sizeMost:=Nat.lt_of_le_of_lt (Nat.le_trans turnD_len (Nat.le_trans (Nat.add_le_add_left (Nat.le_of_lt lt) _) hl)) (by decide)
   have fin:∀u,N' [some (.dct h),some (.dct ch),some (.ref H.length),u,none] (H'.set H.length (cD (turn1 (turnD h dn) (k,v)))):=fun u=>hN _ _ ⟨dn ++ [(k,v)],r,u,a,rfl,by rw [turnD_app];exact at_set hc,e.st (Nat.le_refl _)⟩
   unfold turn1 at fin
   cases hv:isN v with
   | true=>
    rw [hv] at fin
    have fin:∀u,N' [some (.dct h),some (.dct ch),some (.ref H.length),u,none] (H'.set H.length (cD (ddel (turnD h dn) k))):=fin
    have no:dlook (turnD h dn) k=none→∀u,N' [some (.dct h),some (.dct ch),some (.ref H.length),u,none] H':=fun w u=>by
     have f:=fin u
     rw [ddel_no w,set_self hc] at f;exact f
    cases k with
    | inl k=>exact ⟨_,hk,rfl,bT hv ⟨_,hc,rfl,_,hc,Nat.le_of_lt hlen,trivial,popD_of (fun _ _=>fin _) fun w=>no w _⟩⟩
    | inr k=>exact ⟨_,hk,rfl,bT hv ⟨_,hc,rfl,_,hc,Nat.le_of_lt hlen,trivial,popD_of (fun _ _=>fin _) fun w=>no w _⟩⟩
   | false=>
    rw [hv] at fin
    cases k with
    | inl k=>exact ⟨_,hk,rfl,bF hv ⟨_,hk,_,hc,hlen,fin _⟩⟩
    | inr k=>exact ⟨_,hk,rfl,bF hv ⟨_,hk,_,hc,hlen,fin _⟩⟩) (fun l H' i=>by
   obtain ⟨dn,rest,u,a,rfl,hc,e⟩:=i
   rw [a.done] at hc
   exact ⟨_,_,hc,trivial,q.ex (e.st (Nat.le_refl _))⟩) ⟨[],ch,none, .start,rfl,at_new,Ext.rfl'.al⟩⟩
theorem sp_inh (hd:NoDupK h)(hl:h.length+g.length≤1000):Rd V (cl (n+1) false E 570 [.dct h, .dct g]) (.dct (dputs g h)):=fun Q H q=>in570
 ⟨rfl,Nat.le_trans (Nat.le_trans (Nat.le_add_left _ _) hl) (by decide),rfl,Nat.le_trans (Nat.le_trans (Nat.le_add_right _ _) hl) (by decide),
  forL_inv (fun xs l H'=>∃dn rest u,Half h xs dn rest∧l= [some (.dct h),some (.dct g),some (.ref H.length),u,none]∧H'[H.length]?=some (cD (dputs g dn))∧Ext H H') (fun x xs l H' i N' hN=>by
   obtain ⟨dn,rest,u,a,rfl,hc,e⟩:=i
   obtain ⟨k,v,r,rfl,hm,lt,a⟩:=a.next
   have hk:=look_of_mem hd hm
   have hlen:(dputs g dn).length < sizeMost:=Nat.lt_of_le_of_lt (Nat.le_trans dputs_len (Nat.le_trans (Nat.add_le_add_left (Nat.le_of_lt lt) _) (Nat.add_comm g.length _▸hl))) (by decide)
   have fin:∀u,N' [some (.dct h),some (.dct g),some (.ref H.length),u,none] (H'.set H.length (cD (dput (dputs g dn) k v))):=fun u=>hN _ _ ⟨dn ++ [(k,v)],r,u,a,rfl,by rw [dputs_app];exact at_set hc,e.st (Nat.le_refl _)⟩
   cases k with
   | inl k=>exact ⟨_,hk,_,hc,hlen,fin _⟩
   | inr k=>exact ⟨_,hk,_,hc,hlen,fin _⟩) (fun l H' i=>by
   obtain ⟨dn,rest,u,a,rfl,hc,e⟩:=i
   rw [a.done] at hc
   exact ⟨_,_,hc,trivial,q.ex (e.st (Nat.le_refl _))⟩) ⟨[],h,none, .start,rfl,at_new,Ext.rfl'.al⟩⟩
end
end Mine
end
section
namespace Mine
open PySem
section
variable {V:View}{t tr n:Nat}{hd:Bool}{E:Hp→Prop}{H:Hp}{h g d:Dict}{T:Tab}{k:Int}{Q:Po MV}
theorem tab_get (h:tget T k=some d){z:MV}:(dlook (tabE T) (.inl k)).getD z= .tup [.int 0, .dct d]:=by rw [look_tab,h];rfl
theorem sp_home (h:tget T k=some d):Rd (sees t tr T) (cl (n+1) false E 443 [shv t tr,rf k]) (rf k):=fun Q H q=>by
 have ne:H.length≠t:=Nat.ne_of_gt (at_lt q.1.1)
 have ht:=at_ne (c':=cD (dput [] (.inl k) (.bool true))) (at_app (c':=cD []) q.1.1) ne
 exact in443 ⟨Nat.zero_le _,_,at_new,_,at_new,by decide,_,ht,_,ht,rfl,asTup_of (tab_get h) (q.ex (Ext.rfl'.al.st (Nat.le_refl _)))⟩
theorem wp_put (p:(sees t tr T).p H)(hl:T.length < 1000)(q:Q .none (H.set t (cD (dput (tabE T) (.inl k) (.tup [.int 0, .dct d]))))):cl (n+1) hd E 339 [shv t tr, .int k, .int 0, .dct d] Q H:=
 in339 ⟨_,p.1,Nat.lt_of_le_of_lt (Nat.le_of_eq (List.length_map _)) (Nat.lt_of_lt_of_le hl (by decide)),q⟩
theorem wp_lay (p:(sees t tr T).p H)(hl:T.length < 1000)(q:Q .none (H.set t (cD (dput (tabE T) (.inl k) (.tup [.int 0, .dct d]))))):cl (n+2) hd E 450 [shv t tr,rf k, .dct d] Q H:=in450 (wp_put p hl q)
noncomputable def tput:Tab→Int→Dict→Tab
 | [],n,d=>[(n,d)]
 | p::T,n,d=>if p.1=n then (n,d) ::T else p::tput T n d
noncomputable abbrev NoDupT (T:Tab):Prop:=(T.map (·.1)).Nodup
theorem tput_t {p:Int × Dict}(e:p.1=k):tput (p::T) k d= (k,d) ::T:=if_pos e
theorem tput_f {p:Int × Dict}(e:¬ p.1=k):tput (p::T) k d=p::tput T k d:=if_neg e
theorem tget_t {p:Int × Dict}(e:p.1=k):tget (p::T) k=some p.2:=if_pos e
theorem tget_f {p:Int × Dict}(e:¬ p.1=k):tget (p::T) k=tget T k:=if_neg e
theorem tget_tput {k':Int}:tget (tput T k d) k'=if k=k' then some d else tget T k':=by
 induction T with
 | nil=>rfl
 | cons p T ih=>
  by_cases e:p.1=k
  ·rw [tput_t e]
   by_cases e':k=k'
   ·rw [if_pos e',tget_t (p:=(k,d)) e']
   ·rw [if_neg e',tget_f (p:=(k,d)) e',tget_f fun w=>e' (e.symm.trans w)]
  ·rw [tput_f e]
   by_cases e':p.1=k'
   ·rw [tget_t e',tget_t e',if_neg fun w=>e (e'.trans w.symm)]
   ·rw [tget_f e',tget_f e',ih]
theorem tput_keys {d':Dict}(h:tget T k=some d'):(tput T k d).map (·.1) =T.map (·.1):=by
 induction T with
 | nil=>cases h
 | cons p T ih=>
  by_cases e:p.1=k
  ·rw [tput_t e,List.map_cons,List.map_cons,e]
  ·rw [tput_f e,List.map_cons,List.map_cons,ih ((tget_f e).symm.trans h)]
theorem dput_cons {α:Type}{es:List (Key × α)}{e:Key × α}{k:Key}{v:α}(hn:NoDupK (e::es)):dput (e::es) k v=if e.1=k then (k,v) ::es else e::dput es k v:=by
 have h0:=List.nodup_cons.mp hn
 by_cases q:e.1=k
 ·rw [if_pos q]
  have hm:es.map (fun e=>if e.1=k then (e.1,v) else e) =es:=by
   refine (List.map_congr_left fun e' he=>?_).trans (List.map_id' es)
   rw [if_neg fun w=>h0.1 (by show e.1∈_;rw [q,← w];exact List.mem_map.mpr ⟨_,he,rfl⟩)]
  unfold dput
  rw [any_look,look_t q,if_pos (show (some e.2).isSome=true from rfl),List.map_cons,if_pos q,hm,q]
 ·rw [if_neg q]
  unfold dput
  rw [any_look,any_look,look_f q]
  cases (dlook es k).isSome with
  | true=>rw [if_pos rfl,if_pos rfl,List.map_cons,if_neg q]
  | false=>rw [if_neg Bool.false_ne_true,if_neg Bool.false_ne_true];rfl
theorem noDup_tabE (h:NoDupT T):NoDupK (tabE T):=by
 have e:(tabE T).map (·.1) = (T.map (·.1)).map Sum.inl:=by unfold tabE;rw [List.map_map,List.map_map];rfl
 show ((tabE T).map (·.1)).Nodup
 rw [e];exact List.Pairwise.map Sum.inl (fun a b h q=>h (Sum.inl.inj q)) h
theorem dput_tabE (h:NoDupT T):dput (tabE T) (.inl k) (.tup [.int 0, .dct d]) =tabE (tput T k d):=by
 induction T with
 | nil=>rfl
 | cons p T ih=>
  have h':=List.nodup_cons.mp h
  show dput (rowE p::tabE T) _ _=_
  rw [dput_cons (es:=tabE T) (e:=rowE p) (noDup_tabE h)]
  by_cases e:p.1=k
  ·rw [if_pos (show (rowE p).1=Sum.inl k from congrArg Sum.inl e),tput_t e];rfl
  ·rw [if_neg (show ¬ (rowE p).1=Sum.inl k from fun w=>e (Sum.inl.inj w)),tput_f e,ih h'.2];rfl
end
end Mine
end
section
namespace Mine
open PySem
structure Chg (S:List Nat)(H H':Hp):Prop where
 le:H.length≤H'.length
 at':∀i,i < H.length→i∉S→H'[i]?=H[i]?
section
variable {S S':List Nat}{H H1 H2:Hp}{i:Nat}{c:Cell}
theorem Chg.of (b:Ext H H2):Chg S H H2:=⟨b.le,fun i h _=>b.at' i h⟩
theorem Chg.tr (a:Chg S H H1)(b:Chg S H1 H2):Chg S H H2:=⟨Nat.le_trans a.le b.le,fun i h hs=>(b.at' i (Nat.lt_of_lt_of_le h a.le) hs).trans (a.at' i h hs)⟩
theorem Chg.ex (a:Chg S H H1)(b:Ext H1 H2):Chg S H H2:=a.tr (.of b)
theorem Chg.get (e:Chg S H H1)(h:H[i]?=some c)(hs:i∉S):H1[i]?=some c:=(e.at' _ (at_lt h) hs).trans h
theorem Chg.st (a:Chg S H H1)(hi:i∈S∨H.length≤i):Chg S H (H1.set i c):=⟨by rw [List.length_set];exact a.le,fun j hj hs=>(List.getElem?_set_ne fun (w:i=j)=>hi.elim (fun q=>hs (by rw [← w];exact q)) fun q=>Nat.lt_irrefl _ (Nat.lt_of_lt_of_le hj (by rw [← w];exact q))).trans (a.at' j hj hs)⟩
theorem Chg.al (a:Chg S H H1):Chg S H (H1 ++ [c]):=a.ex Ext.rfl'.al
theorem Chg.sub (a:Chg S H H1)(b:Chg S' H1 H2)(h:∀i∈S',i∈S∨H.length≤i):Chg S H H2:=⟨Nat.le_trans a.le b.le,fun i hi hs=>(b.at' i (Nat.lt_of_lt_of_le hi a.le) fun w=>(h i w).elim hs fun q=>Nat.lt_irrefl _ (Nat.lt_of_lt_of_le hi q)).trans (a.at' i hi hs)⟩
end
noncomputable def tourV (a b c:MV):MV:= .inst 489 [a,b,c]
noncomputable def SeenOk (S:Dict)(lo:Int):Prop:=∀e∈S,∃i:Int,e.1= .inl i∧i < lo
section
variable {t tr n cs:Nat}{hd:Bool}{E:Hp→Prop}{H:Hp}{d S:Dict}{T:Tab}{k lo:Int}{Q:Po MV}{a b v:MV}
theorem sp_isfield (h:tget T k=some d)(hv:TnOk d v):Rd (sees t tr T) (cl (n+4) false E 584 [shv t tr,rf k]) (.bool (!isN v)):=fun Q H q=>in584 ((sp_fetch_ref rfl h).run q.1 fun H2 e=>(sp_ownname hv).run ((sees t tr T).mono e q.1) fun H3 e3=>⟨rfl,q.ex (e.tr e3)⟩)
theorem seen_no (h:SeenOk S lo)(hk:lo≤k):dlook S (.inl k) =none:=look_none.mpr fun e he w=>by
 obtain ⟨i,hi,hl⟩:=h e he
 cases Sum.inl.inj (hi.symm.trans w)
 exact Int.lt_irrefl _ (Int.lt_of_lt_of_le hl hk)
theorem seen_put (h:SeenOk S lo)(hk:lo≤k):SeenOk (dput S (.inl k) v) (k+1):=by
 rw [dput_new (seen_no h hk)]
 intro e he
 rcases List.mem_append.mp he with he | he
 ·obtain ⟨i,hi,hl⟩:=h e he
  exact ⟨i,hi,by omega⟩
 ·rw [List.mem_singleton.mp he];exact ⟨k,rfl,by omega⟩
theorem wp_node (p:(sees t tr T).p H)(hs:H[cs]?=some (cD S))(hS:SeenOk S lo)(hlo:lo≤k)(hl:S.length < 1000)(h:tget T k=some d)
  (q:∀H',Chg [cs] H H'→H'[cs]?=some (cD (dput S (.inl k) (.bool true)))→Q (.tup [rf k, .dct d]) H'):cl (n+3) false E 577 [shv t tr,tourV a b (.ref cs),rf k] Q H:=
 in577 ((sp_home h).run p fun H1 e1=>(sp_fetch_ref rfl h).run ((sees t tr T).mono e1 p) fun H2 e2=>by
  have hs2:=(e1.tr e2).get hs
  have no:(dlook S (.inl k)).isSome=false:=by rw [seen_no hS hlo];rfl
  exact ⟨_,hs2,bF no ⟨_,hs2,Nat.lt_of_lt_of_le hl (by decide),q _ ((Chg.of (e1.tr e2)).st (.inl (.head _))) (at_set hs2)⟩⟩)
end
end Mine
end
section
namespace Mine
open PySem
noncomputable def words:List String:=["","Tx","Ch","Btn","Sig"]
inductive FtOk (h:Dict)(w:String):Prop
 | no:dlook h (.inr "FT") =none→w=""→FtOk h w
 | at_:dlook h (.inr "FT") =some (nmv w)→w∈words→FtOk h w
inductive Kd where
 | push | radio | check | text | choice | sig | no
noncomputable def Kd.s:Kd→String
 | .push=>"push"
 | .radio=>"radio"
 | .check=>"check"
 | .text=>"text"
 | .choice=>"choice"
 | .sig=>"signature"
 | .no=>""
noncomputable def plainK (w:String):Kd:=if w="Tx" then .text else if w="Ch" then .choice else if w="Sig" then .sig else .no
noncomputable def btnK (f:Int):Kd:=bif fbit f 17 then .push else bif fbit f 16 then .radio else .check
noncomputable def kindK (w:String)(f:Int):Kd:=bif w == "Btn" then btnK f else plainK w
noncomputable def kindS (w:String)(f:Int):String:=(kindK w f).s
noncomputable def kindD:Dict:=dputs [] [(.inr "Tx", .str "text"),(.inr "Ch", .str "choice"),(.inr "Sig", .str "signature")]
theorem btn_is:∀w∈words,strB (Str.ofString w) "Btn"= (w == "Btn"):=by decide +kernel
theorem kind_is:∀w∈words,(w == "Btn") =false→(dlook kindD (.inr (Str.ofString w))).getD (.str "") = .str (plainK w).s:=by
 have h:words.all (fun w=>w == "Btn" || match (dlook kindD (.inr (Str.ofString w))).getD (.str "") with | .str s=>strB s (plainK w).s | _=>false) =true:=by decide +kernel
 intro w hw nb
 have h:=List.all_eq_true.mp h w hw
 rw [nb] at h
 revert h
 cases (dlook kindD (.inr (Str.ofString w))).getD (.str "") with
 | str s=>exact fun h=>congrArg MV.str (of_decide_eq_true h)
 | _=>nofun
section
variable {V:View}{t tr n:Nat}{E:Hp→Prop}{H:Hp}{h:Dict}{w:String}{f:Int}
theorem sp_kind (hw:FtOk h w)(hf:FfOk h f):Rd V (cl (n+5) false E 563 [shv t tr, .dct h]) (.str (kindS w f)):=fun Q H q=>in563 (by
 have key:w∈words→∀(u:MV) H2,Ext H H2→run (sq (ifS (tCmp .eq (lv 3) (cst (.str "Btn"))) (sq (asS (.one 4) (kall 521 [(lv 0),(lv 1)])) (sq (ifS (tv (kall 507 [(lv 4),(cst (.str "push"))])) (sq (retS (cst (.str "push"))) skp) skp) (sq (retS (tIf (tv (kall 507 [(lv 4),(cst (.str "radio"))])) (cst (.str "radio")) (cst (.str "check")))) skp))) skp) (sq (retS (mth false .dict .get2 (dctC false [((cst (.str "Tx")),(cst (.str "text"))),((cst (.str "Ch")),(cst (.str "choice"))),((cst (.str "Sig")),(cst (.str "signature")))]) [(lv 3),(cst (.str ""))])) skp)) [some (shv t tr),some (.dct h),some u,some (.str w),none,none,none,none] (n+4) false E Q H2:=fun hw u H2 e=>by
  cases hb:w == "Btn" with
  | true=>
   have q:Ev V (Q (.str (btnK f).s)) H:=by unfold kindS kindK at q;rw [hb] at q;exact q
   unfold btnK at q
   refine bT ((btn_is w hw).trans hb) ((sp_flags hf).run (V.mono e q.1) fun H3 e3=>(sp_flag (w:="push") (p:=17) (by decide) hf.nn).run (V.mono (e.tr e3) q.1) fun H4 e4=>?_)
   cases h17:fbit f 17 with
   | true=>rw [h17] at q;exact q.ex ((e.tr e3).tr e4)
   | false=>
    rw [h17] at q
    refine (sp_flag (w:="radio") (p:=16) (by decide) hf.nn).run (V.mono ((e.tr e3).tr e4) q.1) fun H5 e5=>?_
    cases h16:fbit f 16 with
    | true=>rw [h16] at q;exact q.ex (((e.tr e3).tr e4).tr e5)
    | false=>rw [h16] at q;exact q.ex (((e.tr e3).tr e4).tr e5)
  | false=>
   have q:Ev V (Q (.str (plainK w).s)) H:=by unfold kindS kindK at q;rw [hb] at q;exact q
   rw [← kind_is w hw hb] at q
   exact bF ((btn_is w hw).trans hb) ⟨by decide +kernel,q.ex e⟩
 cases hw with
 | no h1 e=>subst e;exact (sp_get (get_none h1) trivial).run q.1 fun H2 e=>key (.head _) .none H2 e
 | at_ h1 hm=>exact (sp_get (get_some h1) (.inl rfl)).run q.1 fun H2 e=>key hm (nmv w) H2 e)
end
end Mine
end
section
namespace Mine
open PySem
noncomputable def Asc:Int→Int→List Int→Prop
 | lo,hi,[]=>lo=hi
 | lo,hi,w::ws=>w=lo∧Asc (lo+1) hi ws
section
variable {t tr n cs:Nat}{E:Hp→Prop}{T:Tab}{a b:MV}
theorem sees_chg {H H':Hp}(p:(sees t tr T).p H)(c:Chg [cs] H H')(h1:cs≠t)(h2:cs≠tr):(sees t tr T).p H':=⟨c.get p.1 fun h=>h1 (List.mem_singleton.mp h).symm,c.get p.2 fun h=>h2 (List.mem_singleton.mp h).symm⟩
theorem wp_nodes {f:MV→Po (List MV)→Hp→Prop}(hf:∀w (Q:Po (List MV)) H,cl (n+3) false noE 577 [shv t tr,tourV a b (.ref cs),rf w] (fun v h=>itemM v (.int 0) h fun x=>Q [x] h) H→f (rf w) Q H)(h1:cs≠t)(h2:cs≠tr){ws:List Int} :
  ∀ {lo hi:Int}{S:Dict}{H:Hp}{Q:Po (List MV)},(sees t tr T).p H→H[cs]?=some (cD S)→SeenOk S lo→Asc lo hi ws→S.length+ws.length < 900→(∀w∈ws,∃d,tget T w=some d)→
   (∀H' S',Chg [cs] H H'→H'[cs]?=some (cD S')→SeenOk S' hi→S'.length≤S.length+ws.length→Q (ws.map rf) H')→eachM f (ws.map rf) Q H:=by
 induction ws with
 | nil=>exact fun {lo hi S H Q} p hs hS ha _ _ q=>q H S (.of .rfl') hs (ha▸hS) (Nat.le_refl _)
 | cons w ws ih=>
  intro lo hi S H Q p hs hS ha hl hw q
  obtain ⟨d,hd⟩:=hw w (.head _)
  obtain ⟨rfl,ha⟩:=ha
  rw [List.length_cons] at hl q
  refine hf w _ H (wp_node p hs hS (Int.le_refl _) (by omega) hd fun H1 c1 s1=>⟨0,rfl,by decide,_,rfl,?_⟩)
  have ln:(dput S (.inl w) (.bool true)).length≤S.length+1:=dput_len ..
  exact ih (sees_chg p c1 h1 h2) s1 (seen_put hS (Int.le_refl _)) ha (by omega) (fun x hx=>hw x (.tail _ hx)) fun H2 S' c2 s2 hS' l2=>q H2 S' (c1.tr c2) s2 hS' (by omega)
inductive LeafW (T:Tab)(lo hi home:Int)(head:Dict)(wids:List Int):Prop
 | kids:wids≠ []→dlook head (.inr "Kids") =some (.lst (wids.map rf))→Asc (lo+1) hi wids→wids.length≤10→(∀w∈wids,∃d,tget T w=some d∧dlook d (.inr "T") =none)→LeafW T lo hi home head wids
 | lone:dlook head (.inr "Kids") =none→hi=lo+1→dlook head (.inr "Subtype") =some (nmv "Widget")→wids= [home]→LeafW T lo hi home head wids
 | no:dlook head (.inr "Kids") =none→hi=lo+1→dlook head (.inr "Subtype") =none→wids= []→LeafW T lo hi home head wids
theorem wp_ownW {wids:List Int}{lo hi home:Int}{S head:Dict}{H:Hp}{Q:Po MV}{kids:List MV}(p:(sees t tr T).p H)(hs:H[cs]?=some (cD S))(h1:cs≠t)(h2:cs≠tr)(hS:SeenOk S (lo+1))(hl:S.length < 800)(hw:LeafW T lo hi home head wids)(hk:(dlook head (.inr "Kids")).getD (.lst []) = .lst kids)
  (q:∀H' S',Chg [cs] H H'→H'[cs]?=some (cD S')→SeenOk S' hi→S'.length≤S.length+wids.length→Q (.lst (wids.map rf)) H'):cl (n+4) false E 589 [shv t tr,tourV a b (.ref cs),rf home, .dct head, .lst kids] Q H:=in589 (by
 cases hw with
 | kids ne hK ha wl hw=>
  rw [hK] at hk
  cases hk
  have l0:0 < wids.length:=List.length_pos_iff.mpr ne
  have lm:(wids.map rf).length≤sizeMost:=by rw [List.length_map];exact Nat.le_trans wl (by decide)
  refine ⟨lm,bT (decide_eq_true (by rw [List.length_map];exact Int.ofNat_lt.mpr l0)) ⟨lm,?_⟩⟩
  exact wp_nodes (n:=n) (a:=a) (b:=b) (fun w Q H q=>q) h1 h2 p hs hS ha (by omega) (fun w hw'=>(hw w hw').imp fun _ h=>h.1) fun H' S' c s' hS' l=>⟨lm,q H' S' c s' hS' l⟩
 | lone hK hh hW e=>
  rw [hK] at hk
  cases hk
  subst hh e
  exact ⟨Nat.zero_le _,(sp_get (V:=vAll) (get_some hW) (.inl rfl)).run trivial fun H2 e=>⟨show 1≤sizeMost by decide,q H2 S (.of e) (e.get hs) hS (Nat.le_add_right _ _)⟩⟩
 | no hK hh hW e=>
  rw [hK] at hk
  cases hk
  subst hh e
  exact ⟨Nat.zero_le _,(sp_get (V:=vAll) (get_none hW) trivial).run trivial fun H2 e=>⟨by decide,q H2 S (.of e) (e.get hs) hS (Nat.le_add_right _ _)⟩⟩)
end
end Mine
end
section
namespace Mine
open PySem
noncomputable def walkT:Cd Bool:=(tCmp .gt (blt false .len [(lv 3)]) (cst (.int 0)))
noncomputable def walkF:Cs:=(sq (exS (mth false .list .append (fd 489 0 (lv 1)) [(kall 468 [(tIf (tCmp .is (lv 9) (cst .none)) (cst (.str "")) (lv 9)),(lv 7),(lv 4),(lv 14),(lv 10),(kall 563 [(lv 0),(lv 10)])])])) skp)
noncomputable def walkE:Cs:=(sq (asS (.one 14) (kall 589 [(lv 0),(lv 1),(lv 7),(lv 8),(lv 11)])) walkF)
noncomputable def walkG:Cs:=(sq (exS (mth false .list .append (fd 489 1 (lv 1)) [(tupC [(lv 7),(lv 4)])])) (sq (asS (.one 13) (dcp false (icomp [none,none,some 10] (.one 1) (iover (cst (.tup [.str "FT", .str "Ff", .str "V", .str "DV", .str "MaxLen", .str "Opt"]))) (tAnd (tCmp .in (lv 1) (lv 2)) yes) (ipair (lv 1) (itm (lv 2) (lv 1)))))) (sq (exS (mth false .list .extend (lv 3) [(lcp false (icomp [none,none,some 9,some 13,some 7] (.one 1) (irev (lv 12)) yes (ione (tupC [(lv 1),(lv 4),(lv 2),(lv 3)]))))])) skp)))
noncomputable def walkD:Cs:=(sq (ifS (tCmp .gt (blt false .len [(lv 12)]) (cst (.int 0))) walkG walkE) skp)
noncomputable def walkC:Cs:=(sq (asS (.one 9) (kall 556 [(lv 5),(kall 549 [(lv 0),(lv 8)])])) (sq (asS (.one 10) (kall 570 [(lv 8),(lv 6)])) (sq (asS (.one 11) (kall 542 [(lv 0),(lv 8),(cst (.str "Kids"))])) (sq (asS (.one 12) (lcp false (icomp [none,none,none,some 0] (.one 1) (iover (lv 11)) (tAnd (tv (kall 584 [(lv 3),(lv 1)])) yes) (ione (lv 1))))) walkD))))
noncomputable def walkB:Cs:=(sq (asS (.many [2,4,5,6]) (mth false .list .pop (lv 3) [])) (sq (asS (.many [7,8]) (kall 577 [(lv 0),(lv 1),(lv 2)])) walkC))
noncomputable def sixK:List String:=["FT","Ff","V","DV","MaxLen","Opt"]
noncomputable def pairO (k:Key)(o:Option MV):Dict:=match o with
 | some v=>[(k,v)]
 | none=>[]
noncomputable def handK (h:Dict)(k:String):Dict:=pairO (.inr (Str.ofString k)) (dlook h (.inr (Str.ofString k)))
noncomputable def handL (h:Dict):Dict:=sixK.flatMap (handK h)
noncomputable def nameS:MV→Str
 | .str s=>s
 | _=>""
noncomputable def longer (a b:MV):MV:=match a,b with
 | a, .none=>a
 | .none,b=>b
 | .str a, .str b=> .str (dotted a b)
 | a,_=>a
inductive LongOk (a b:MV):Prop
 | no:a= .none∨(∃s,a= .str s)→b= .none→LongOk a b
 | first (s:Str):a= .none→b= .str s→LongOk a b
 | both (u s:Str):a= .str u→b= .str s→u.length+1+s.length≤1000→LongOk a b
structure Rw where
 name:Str
 num:Int
 above:MV
 whole:Dict
 wholeP:Dict
 w:String
 f:Int
 mx:Option Int
 op:Nat
 wids:List Int
 sts:List (List String)
noncomputable def Rw.leaf (r:Rw):MV:=leafV (.str r.name) (rf r.num) r.above (.lst (r.wids.map rf)) (.dct r.wholeP) (.str (kindS r.w r.f))
noncomputable def Rw.row (r:Rw):MV:= .tup [.str r.name,rf r.num,r.above, .dct r.whole, .lst (r.wids.map rf)]
noncomputable def WL (P:Int→Int→Int→List Rw→Prop):Int→Int→List Int→List Rw→Prop
 | lo,hi,[],rs=>lo=hi∧rs= []
 | lo,hi,k::ks,rs=>∃mid rs1 rs2,P lo mid k rs1∧WL P mid hi ks rs2∧rs=rs1 ++ rs2
inductive LeafAt (T:Tab)(lo hi home:Int)(above name:MV)(given head:Dict)(rs:List Rw):Prop
 | mk (r:Rw):rs= [r]→LeafW T lo hi home head r.wids→r.name=nameS name→r.num=home→r.above=above→r.wholeP=dputs given head→FtOk r.wholeP r.w→FfOk r.wholeP r.f→LeafAt T lo hi home above name given head rs
structure Node (T:Tab)(lo home:Int)(name part:MV)(given head:Dict):Prop where
 lo:home=lo
 at_:tget T home=some head
 nd:NoDupK head
 len:head.length+given.length≤100
 tn:TnOk head part
 long:LongOk name part
structure KidsAt (T:Tab)(head:Dict)(ks:List Int):Prop where
 ne:ks≠ []
 len:ks.length≤10
 at_:dlook head (.inr "Kids") =some (.lst (ks.map rf))
 fld:∀k∈ks,∃d v,tget T k=some d∧TnOk d v∧isN v=false
noncomputable def Walks (T:Tab):Nat→Int→Int→Int→MV→MV→Dict→List Rw→Prop
 | 0,_,_,_,_,_,_,_=>False
 | d+1,lo,hi,home,above,name,given,rs=>∃head part,Node T lo home name part given head∧
  (LeafAt T lo hi home above (longer name part) given head rs∨∃ks:List Int,KidsAt T head ks∧WL (fun lo hi k rs=>Walks T d lo hi k (rf home) (longer name part) (dputs [] (handL (dputs given head))) rs) (lo+1) hi ks rs)
structure TSt (t tr cf cn cs cl:Nat)(T:Tab)(L F N:List MV)(S:Dict)(H:Hp):Prop where
 see:(sees t tr T).p H
 f:H[cf]?=some (cL F)
 n:H[cn]?=some (cL N)
 s:H[cs]?=some (cD S)
 l:H[cl]?=some (cL L)
structure TDis (t tr cf cn cs cl:Nat):Prop where
 tf:t≠cf
 tn:t≠cn
 ts:t≠cs
 tl:t≠cl
 rf:tr≠cf
 rn:tr≠cn
 rs:tr≠cs
 rl:tr≠cl
 fn:cf≠cn
 fs:cf≠cs
 fl:cf≠cl
 ns:cn≠cs
 nl:cn≠cl
 sl:cs≠cl
section
variable {t tr cf cn cs ck:Nat}{T:Tab}{L F N L':List MV}{S S':Dict}{H H':Hp}
theorem TSt.ex (w:TSt t tr cf cn cs ck T L F N S H)(e:Ext H H'):TSt t tr cf cn cs ck T L F N S H':=⟨(sees t tr T).mono e w.see,e.get w.f,e.get w.n,e.get w.s,e.get w.l⟩
theorem TSt.stL (w:TSt t tr cf cn cs ck T L F N S H)(d:TDis t tr cf cn cs ck):TSt t tr cf cn cs ck T L' F N S (H.set ck (cL L')):=⟨⟨at_ne w.see.1 d.tl.symm,at_ne w.see.2 d.rl.symm⟩,at_ne w.f d.fl.symm,at_ne w.n d.nl.symm,at_ne w.s d.sl.symm,at_set w.l⟩
theorem TSt.stF (w:TSt t tr cf cn cs ck T L F N S H)(d:TDis t tr cf cn cs ck):TSt t tr cf cn cs ck T L L' N S (H.set cf (cL L')):=⟨⟨at_ne w.see.1 d.tf.symm,at_ne w.see.2 d.rf.symm⟩,at_set w.f,at_ne w.n d.fn,at_ne w.s d.fs,at_ne w.l d.fl⟩
theorem TSt.stN (w:TSt t tr cf cn cs ck T L F N S H)(d:TDis t tr cf cn cs ck):TSt t tr cf cn cs ck T L F L' S (H.set cn (cL L')):=⟨⟨at_ne w.see.1 d.tn.symm,at_ne w.see.2 d.rn.symm⟩,at_ne w.f d.fn.symm,at_set w.n,at_ne w.s d.ns,at_ne w.l d.nl⟩
theorem TSt.stS (w:TSt t tr cf cn cs ck T L F N S H)(d:TDis t tr cf cn cs ck)(c:Chg [cs] H H')(h:H'[cs]?=some (cD S')):TSt t tr cf cn cs ck T L F N S' H':=
 have o:∀ {i:Nat},i≠cs→i∉ [cs]:=fun n q=>n (List.mem_singleton.mp q)
 ⟨⟨c.get w.see.1 (o d.ts),c.get w.see.2 (o d.rs)⟩,c.get w.f (o d.fs),c.get w.n (o d.ns),h,c.get w.l (o d.sl.symm)⟩
end
section
variable {V:View}{n:Nat}{E:Hp→Prop}{a b:MV}
theorem sp_longer (h:LongOk a b):Rd V (cl (n+1) false E 556 [a,b]) (longer a b):=by
 cases h with
 | no h e=>
  subst e
  have e:longer a .none=a:=by cases a <;> rfl
  rw [e]
  exact sp_longer_n
 | first s e e'=>subst e e';exact sp_longer_0
 | both u s e e' h=>subst e e';exact sp_longer_s h
end
end Mine
end
section
namespace Mine
open PySem
inductive WLoc (t tr cf cn cs ck:Nat):Loc→Prop
 | mk {b c d e f g h i j k m o:Option MV}:WLoc t tr cf cn cs ck [some (shv t tr),some (tourV (.ref cf) (.ref cn) (.ref cs)),b,some (.ref ck),c,d,e,f,g,h,i,j,k,m,o,none,none,none,none,none,none,none,none,none,none,none,none,none]
noncomputable def itemV (home:Int)(above name:MV)(given:Dict):MV:= .tup [rf home,above,name, .dct given]
inductive WPost (t tr cf cn cs ck:Nat)(T:Tab)(L F:List MV)(hi:Int)(b:Nat)(H0:Hp)(l:Loc)(H:Hp):Prop
 | mk (N:List MV)(S:Dict):WLoc t tr cf cn cs ck l→TSt t tr cf cn cs ck T L F N S H→SeenOk S hi→L.length+F.length+N.length+S.length≤b→Chg [cf,cn,cs,ck] H0 H→WPost t tr cf cn cs ck T L F hi b H0 l H
noncomputable def KW (n:Nat)(ret:Po MV)(M:Loc→Hp→Prop):Kx:=⟨cl (n+7),noE,false,ret,M⟩
theorem lone_w {T:Tab}{lo hi home:Int}{head:Dict}{wids:List Int}(h:LeafW T lo hi home head wids):wids.length≤10∧∃kids:List MV,((dlook head (.inr "Kids")).getD .none= .lst kids∨dlook head (.inr "Kids") =none∧kids= [])∧(dlook head (.inr "Kids")).getD (.lst []) = .lst kids∧kids.length≤10∧∀v∈kids,∃w d,v=rf w∧tget T w=some d∧dlook d (.inr "T") =none:=by
 cases h with
 | kids ne hK ha wl hw=>exact ⟨wl,_, .inl (congrArg (Option.getD · MV.none) hK),congrArg (Option.getD · _) hK,by rw [List.length_map];exact wl,fun v hv=>by
   obtain ⟨x,hx,rfl⟩:=List.mem_map.mp hv
   obtain ⟨d,h1,h2⟩:=hw x hx
   exact ⟨x,d,rfl,h1,h2⟩⟩
 | lone hK _ _ e=>exact ⟨by rw [e];exact Nat.le_of_ble_eq_true rfl,[], .inr ⟨hK,rfl⟩,congrArg (Option.getD · _) hK,Nat.zero_le _,nofun⟩
 | no hK _ _ e=>exact ⟨by rw [e];exact Nat.zero_le _,[], .inr ⟨hK,rfl⟩,congrArg (Option.getD · _) hK,Nat.zero_le _,nofun⟩
theorem put2 {l:Loc}{i j:Nat}{a b:MV}{N:Loc→Prop}(q:N (lput (lput l i a) j b)):asTup (.tup [a,b]) fun vs=>lputs l [i,j] vs N:=q
theorem putO {l:Loc}{i:Nat}{a:MV}{N:Loc→Prop}{hd:Bool}(q:N (lput l i a)):put hd (.one i) a l N:=q
theorem flat_none {α β:Type}{xs:List α}:xs.flatMap (fun _=>([]:List β)) = []:=by
 induction xs with
 | nil=>rfl
 | cons x xs ih=>exact ih
theorem longer_ns {a b:MV}(h:LongOk a b):longer a b= .none∨∃s,longer a b= .str s:=by
 cases h with
 | no h e=>subst e;rcases h with rfl | ⟨s,rfl⟩;exact .inl rfl;exact .inr ⟨s,rfl⟩
 | first s e e'=>subst e e';exact .inr ⟨s,rfl⟩
 | both u s e e' h=>subst e e';exact .inr ⟨_,rfl⟩
section
variable {t tr cf cn cs ck n:Nat}{T:Tab}{L F N:List MV}{S:Dict}{H:Hp}{l:Loc}{home lo hi:Int}{above name part:MV}{given head:Dict}{rs:List Rw}{ret:Po MV}{B M:Loc→Hp→Prop}
theorem s4a {a b c d n:Nat}(h:a+b+c+d≤n):a≤n:=Nat.le_trans (Nat.le_trans (Nat.le_trans (Nat.le_add_right _ _) (Nat.le_add_right _ _)) (Nat.le_add_right _ _)) h
theorem s4d {a b c d n:Nat}(h:a+b+c+d≤n):d≤n:=Nat.le_trans (Nat.le_add_left _ _) h
theorem s4q {a b c d e:Nat}(h:e≤d+11):a+ (b+1) +c+e≤a+b+c+d+12:=by
 refine Nat.le_trans (Nat.add_le_add_left h _) (Nat.le_of_eq ?_)
 rw [← Nat.add_assoc a b 1,Nat.add_right_comm (a+b) 1 c,Nat.add_assoc (a+b+c) 1,Nat.add_comm 1]
 rfl
theorem wp_leaf (w:TSt t tr cf cn cs ck T (L ++ [itemV home above name given]) F N S H)(d:TDis t tr cf cn cs ck)(hl:WLoc t tr cf cn cs ck l)(hS:SeenOk S lo)(hlen:L.length+F.length+N.length+S.length≤750)
  (nd:Node T lo home name part given head) (hf:LeafAt T lo hi home above (longer name part) given head rs)
  (q:∀l' H',WPost t tr cf cn cs ck T L (F ++ rs.map Rw.leaf) hi (L.length+F.length+N.length+S.length+12) H l' H'→M l' H'):walkB (KW n ret B) M l H:=by
 obtain ⟨r,rfl,hW,h1,h2,h3,h4,h5,h6⟩:=hf
 obtain ⟨hwl,kids,hkr,hkg,hkl,hkd⟩:=lone_w hW
 have ll:(L ++ [itemV home above name given]).length≤sizeMost:=by rw [List.length_append];exact Nat.le_trans (Nat.add_le_add_right (s4a hlen) _) (Nat.le_of_ble_eq_true rfl)
 have w1:=w.stL (L':=L) d
 have dl:(dput S (.inl home) (.bool true)).length≤S.length+1:=dput_len ..
 cases nd.lo
 cases hl with | mk=>
 rename_i b0 c0 d0 e0 f0 g0 h0 i0 j0 k0 m0 o0
 refine ⟨_,w.l,rfl,_,w.l,ll,L,_,rfl,rfl,wp_node w1.see w1.s hS (Int.le_refl _) (Nat.lt_of_le_of_lt (s4d hlen) (by decide)) nd.at_ fun H2 c2 s2=>⟨rfl,put2 ?_⟩⟩
 show walkC (KW n ret B) M [some (shv t tr),some (tourV (.ref cf) (.ref cn) (.ref cs)),some (rf home),some (.ref ck),some above,some name,some (.dct given),some (rf home),some (.dct head),h0,i0,j0,k0,m0,o0,none,none,none,none,none,none,none,none,none,none,none,none,none] H2
 have w2:=w1.stS d c2 s2
 refine (sp_ownname nd.tn).run w2.see fun H3 x3=>(sp_longer nd.long).run (w2.ex x3).see fun H4 x4=>(sp_inh nd.nd (Nat.le_trans nd.len (Nat.le_of_ble_eq_true rfl))).run (V:=vAll) trivial fun H5 x5=>(sp_row hkr).run (V:=vAll) trivial fun H6 x6=>⟨Nat.le_trans hkl (Nat.le_of_ble_eq_true rfl),?_⟩
 have w6:=w2.ex (((x3.tr x4).tr x5).tr x6)
 refine (each_rd (V:=sees t tr T) (g:=fun _=>[]) fun v hv Q H q=>by
  obtain ⟨x,dx,rfl,hx,hx2⟩:=hkd v hv
  exact (sp_isfield hx (.no hx2 rfl)).run q.1 fun H2 e=>q.ex e).run w6.see fun H7 x7=>?_
 rw [flat_none]
 have w7:=w6.ex x7
 have c7:Chg [cf,cn,cs,ck] H H7:=(((Chg.of .rfl').st (.inl (.tail _ (.tail _ (.tail _ (.head _)))))).sub c2 fun i hi=> .inl (by rw [List.mem_singleton.mp hi];exact .tail _ (.tail _ (.head _)))).ex ((((x3.tr x4).tr x5).tr x6).tr x7)
 refine ⟨Nat.zero_le _,Nat.zero_le _,wp_ownW w7.see w7.s d.ts.symm d.rs.symm (seen_put hS (Int.le_refl _)) (Nat.lt_of_le_of_lt (Nat.le_trans dl (Nat.succ_le_succ (s4d hlen))) (by decide)) hW hkg fun H8 S8 c8 s8 hS8 l8=>putO ?_⟩
 show walkF (KW n ret B) M [some (shv t tr),some (tourV (.ref cf) (.ref cn) (.ref cs)),some (rf home),some (.ref ck),some above,some name,some (.dct given),some (rf home),some (.dct head),some (longer name part),some (.dct (dputs given head)),some (.lst kids),some (.lst []),m0,some (.lst (r.wids.map rf)),none,none,none,none,none,none,none,none,none,none,none,none,none] H8
 have w8:=w7.stS d c8 s8
 have fin:∀(nv:Str),nv=r.name→∀H9,Ext H8 H9→H9[cf]?=some (cL F)→cl (n+7) false noE 563 [shv t tr, .dct (dputs given head)] (fun v=>cl (n+7) false noE 468 [.str nv,rf home,above, .lst (r.wids.map rf), .dct (dputs given head),v] fun v H=>prim false false .append [.ref cf,v] (fun _=>M [some (shv t tr),some (tourV (.ref cf) (.ref cn) (.ref cs)),some (rf home),some (.ref ck),some above,some name,some (.dct given),some (rf home),some (.dct head),some (longer name part),some (.dct (dputs given head)),some (.lst kids),some (.lst []),m0,some (.lst (r.wids.map rf)),none,none,none,none,none,none,none,none,none,none,none,none,none]) H) H9:=fun nv hnv H9 x9 _=>by
  have w9:=w8.ex x9
  rw [← h4]
  refine (sp_kind h5 h6).run (V:=vAll) trivial fun H10 x10=>mk468 ⟨_,(w9.ex x10).f,by unfold sizeMost;omega,q _ _ (.mk N S8 .mk ?_ hS8 ?_ (((c7.sub c8 fun i hi=> .inl (by rw [List.mem_singleton.mp hi];exact .tail _ (.tail _ (.head _)))).ex (x9.tr x10)).st (.inl (.head _))))⟩
  ·have e: [r].map Rw.leaf= [leafV (.str nv) (rf home) above (.lst (r.wids.map rf)) (.dct r.wholeP) (.str (kindS r.w r.f))]:=by
    show [Rw.leaf r] =_
    unfold Rw.leaf;rw [hnv,h2,h3]
   rw [e]
   exact (w9.ex x10).stF d
  ·rw [List.length_append,List.length_map,List.length_singleton];exact s4q (show S8.length≤S.length+1+10 from Nat.le_trans l8 (Nat.add_le_add dl hwl))
 rcases longer_ns nd.long with h | ⟨u,h⟩
 ·rw [h] at h1 fin ⊢
  exact ⟨_,w8.f,rfl,fin _ h1.symm _ .rfl' w8.f⟩
 ·rw [h] at h1 fin ⊢
  exact ⟨_,w8.f,rfl,fin _ h1.symm _ .rfl' w8.f⟩
end
end Mine
end
section
namespace Mine
open PySem
theorem handL_le (h:Dict):(handL h).length≤6:=by
 have a:∀k:String,(handK h k).length≤1:=fun k=>by
  unfold handK
  cases dlook h (.inr (Str.ofString k)) with
  | some v=>exact Nat.le_refl _
  | none=>exact Nat.zero_le _
 unfold handL sixK
 have b:∀l:List String,(l.flatMap (handK h)).length≤l.length:=fun l=>by
  induction l with
  | nil=>exact Nat.le_refl _
  | cons k l ih=>rw [List.flatMap_cons,List.length_append,List.length_cons,Nat.add_comm];exact Nat.add_le_add ih (a k)
 exact b _
noncomputable def handG (w:Dict)(v:MV):Dict:=match v with
 | .str s=>pairO (.inr s) (dlook w (.inr s))
 | _=>[]
theorem flat_id {α:Type}{xs:List α}:xs.flatMap (fun x=>[x]) =xs:=by
 induction xs with
 | nil=>rfl
 | cons x xs ih=>exact congrArg (x:: ·) ih
noncomputable def item4 (home:Int)(name:MV)(given:Dict)(v:MV):MV:= .tup [v,rf home,name, .dct given]
section
variable {t tr cf cn cs ck n:Nat}{T:Tab}{L F N:List MV}{S:Dict}{H:Hp}{l:Loc}{home lo hi:Int}{above name part:MV}{given head:Dict}{ks:List Int}{ret:Po MV}{B M:Loc→Hp→Prop}
theorem wp_group (w:TSt t tr cf cn cs ck T (L ++ [itemV home above name given]) F N S H)(d:TDis t tr cf cn cs ck)(hl:WLoc t tr cf cn cs ck l)(hS:SeenOk S lo)(hlen:L.length+F.length+N.length+S.length≤750)
  (nd:Node T lo home name part given head) (hk:KidsAt T head ks)
  (q:∀l' H',WPost t tr cf cn cs ck T (L ++ ks.reverse.map (fun k=>itemV k (rf home) (longer name part) (dputs [] (handL (dputs given head))))) F (lo+1) (L.length+F.length+N.length+S.length+12) H l' H'→M l' H'):walkB (KW n ret B) M l H:=by
 have ll:(L ++ [itemV home above name given]).length≤sizeMost:=by rw [List.length_append];exact Nat.le_trans (Nat.add_le_add_right (show L.length≤750 by omega) _) (Nat.le_of_ble_eq_true rfl)
 have w1:=w.stL (L':=L) d
 have dl:(dput S (.inl home) (.bool true)).length≤S.length+1:=dput_len ..
 have kl:(ks.map rf).length≤10:=by rw [List.length_map];exact hk.len
 have k0:0 < ks.length:=List.length_pos_iff.mpr hk.ne
 cases nd.lo
 cases hl with | mk=>
 rename_i b0 c0 d0 e0 f0 g0 h0 i0 j0 k0 m0 o0
 refine ⟨_,w.l,rfl,_,w.l,ll,L,_,rfl,rfl,wp_node w1.see w1.s hS (Int.le_refl _) (by omega) nd.at_ fun H2 c2 s2=>⟨rfl,put2 ?_⟩⟩
 show walkC (KW n ret B) M [some (shv t tr),some (tourV (.ref cf) (.ref cn) (.ref cs)),some (rf home),some (.ref ck),some above,some name,some (.dct given),some (rf home),some (.dct head),h0,i0,j0,k0,m0,o0,none,none,none,none,none,none,none,none,none,none,none,none,none] H2
 have w2:=w1.stS d c2 s2
 refine (sp_ownname nd.tn).run w2.see fun H3 x3=>(sp_longer nd.long).run (w2.ex x3).see fun H4 x4=>(sp_inh nd.nd (Nat.le_trans nd.len (Nat.le_of_ble_eq_true rfl))).run (V:=vAll) trivial fun H5 x5=>(sp_row (.inl (congrArg (Option.getD · MV.none) hk.at_))).run (V:=vAll) trivial fun H6 x6=>⟨Nat.le_trans kl (Nat.le_of_ble_eq_true rfl),?_⟩
 have w6:=w2.ex (((x3.tr x4).tr x5).tr x6)
 refine (each_rd (V:=sees t tr T) (g:=fun v=>[v]) fun v hv Q H q=>by
  obtain ⟨x,hx,rfl⟩:=List.mem_map.mp hv
  obtain ⟨dx,v,hx,hx2,hx3⟩:=hk.fld x hx
  exact (sp_isfield hx hx2).run q.1 fun H2 e=>bT (congrArg not hx3) (q.ex e)).run w6.see fun H7 x7=>?_
 rw [flat_id]
 have w7:=w6.ex x7
 have c7:Chg [cf,cn,cs,ck] H H7:=(((Chg.of .rfl').st (.inl (.tail _ (.tail _ (.tail _ (.head _)))))).sub c2 fun i hi=> .inl (by rw [List.mem_singleton.mp hi];exact .tail _ (.tail _ (.head _)))).ex ((((x3.tr x4).tr x5).tr x6).tr x7)
 refine ⟨Nat.le_trans kl (Nat.le_of_ble_eq_true rfl),bif_f rfl (putO ?_)⟩
 show walkD (KW n ret B) M [some (shv t tr),some (tourV (.ref cf) (.ref cn) (.ref cs)),some (rf home),some (.ref ck),some above,some name,some (.dct given),some (rf home),some (.dct head),some (longer name part),some (.dct (dputs given head)),some (.lst (ks.map rf)),some (.lst (ks.map rf)),m0,o0,none,none,none,none,none,none,none,none,none,none,none,none,none] H7
 refine ⟨Nat.le_trans kl (Nat.le_of_ble_eq_true rfl),bT (decide_eq_true (by rw [List.length_map];exact Int.ofNat_lt.mpr (by assumption))) ?_⟩
 have w8:=w7.stN (L':=N ++ [.tup [rf home,above]]) d
 refine ⟨_,w7.n,_,w7.n,Nat.lt_of_le_of_lt (show N.length≤750 by omega) (Nat.le_of_ble_eq_true rfl),rfl,Nat.le_of_ble_eq_true rfl,?_⟩
 refine (each_rd (V:=vAll) (g:=handG (dputs given head)) fun v hv Q H q=>?_).run trivial fun H9 x9=>?_
 ·have:∃s,v= .str s:=by
   obtain ⟨k,_,rfl⟩:=List.mem_map.mp (show v∈sixK.map fun k=>MV.str (Str.ofString k) from hv)
   exact ⟨_,rfl⟩
  obtain ⟨s,rfl⟩:=this
  cases h:dlook (dputs given head) (.inr s) with
  | none=>rw [show handG _ (.str s) = [] from congrArg (pairO (.inr s)) h] at q;exact bF (congrArg Option.isSome h) q.now
  | some u=>rw [show handG _ (.str s) = [(.inr s,u)] from congrArg (pairO (.inr s)) h] at q;exact bT (congrArg Option.isSome h) ⟨_,h,q.now⟩
 have w9:=w8.ex x9
 have dl2:(dputs [] (handL (dputs given head))).length≤6:=Nat.le_trans dputs_len (by rw [List.length_nil,Nat.zero_add];exact handL_le _)
 refine ⟨Nat.le_trans (handL_le (dputs given head)) (Nat.le_of_ble_eq_true rfl),Nat.le_trans dl2 (Nat.le_of_ble_eq_true rfl),_,w9.l,rfl,Nat.le_trans kl (Nat.le_of_ble_eq_true rfl),?_⟩
 refine (each_rd (V:=vAll) (g:=fun v=>[item4 home (longer name part) (dputs [] (handL (dputs given head))) v]) fun v hv Q H q=>q.now).run trivial fun H10 x10=>?_
 have w10:=w9.ex x10
 have e:((ks.map rf).reverse.flatMap fun v=>[item4 home (longer name part) (dputs [] (handL (dputs given head))) v]) =ks.reverse.map (fun k=>itemV k (rf home) (longer name part) (dputs [] (handL (dputs given head)))):=by
  rw [← List.map_reverse,flat_map];rfl
 rw [e]
 have el:(ks.reverse.map (fun k=>itemV k (rf home) (longer name part) (dputs [] (handL (dputs given head))))).length≤10:=by rw [List.length_map,List.length_reverse];exact hk.len
 refine ⟨Nat.le_trans el (Nat.le_of_ble_eq_true rfl),rfl,_,w10.l,Nat.le_trans (Nat.add_le_add (show L.length≤750 by omega) el) (Nat.le_of_ble_eq_true rfl),q _ _ (.mk _ _ .mk (w10.stL d) (seen_put hS (Int.le_refl _)) ?_ ((((c7.st (.inl (.tail _ (.head _)))).ex x9).ex x10).st (.inl (.tail _ (.tail _ (.tail _ (.head _)))))))⟩
 rw [List.length_append,List.length_append,List.length_singleton];omega
end
end Mine
end
section
namespace Mine
open PySem
inductive WAt (t tr cf cn cs ck:Nat)(T:Tab)(c:Int)(H0:Hp)(L F:List MV)(lo:Int)(l:Loc)(H:Hp):Prop
 | mk (N:List MV)(S:Dict):WLoc t tr cf cn cs ck l→TSt t tr cf cn cs ck T L F N S H→SeenOk S lo→((L.length+F.length+N.length+S.length:Nat):Int)≤c+12 * lo→Chg [cf,cn,cs,ck] H0 H→WAt t tr cf cn cs ck T c H0 L F lo l H
noncomputable def goW (n:Nat)(ret:Po MV)(B:Loc→Hp→Prop)(m:Nat)(l:Loc)(H:Hp):Prop:=whl walkT walkB (KW n ret B) B m l H
noncomputable def Gets (t tr cf cn cs ck n:Nat)(T:Tab)(ret:Po MV)(B:Loc→Hp→Prop)(c:Int)(L F:List MV)(lo:Int)(L' F':List MV)(hi:Int):Prop:=
 ∀H0 l H,WAt t tr cf cn cs ck T c H0 L F lo l H→∀m:Nat,hi - lo≤m→(∀(k:Nat) l' H',m≤k+ (hi - lo)→WAt t tr cf cn cs ck T c H0 L' F' hi l' H'→goW n ret B k l' H')→goW n ret B m l H
theorem leafW_lt {T:Tab}{lo hi home:Int}{head:Dict}{wids:List Int}(h:LeafW T lo hi home head wids):lo+1≤hi:=by
 have asc:∀ {ws:List Int}{lo hi:Int},Asc lo hi ws→lo≤hi:=fun {ws}=>by
  induction ws with
  | nil=>exact fun h=>Int.le_of_eq h
  | cons w ws ih=>exact fun h=>Int.le_trans (Int.le_of_lt (Int.lt_succ _)) (ih h.2)
 cases h with
 | kids _ _ h _ _=>exact asc h
 | lone _ h _ _=>exact Int.le_of_eq h.symm
 | no _ h _ _=>exact Int.le_of_eq h.symm
theorem WL.le {P:Int→Int→Int→List Rw→Prop}(hP:∀lo hi k rs,P lo hi k rs→lo+1≤hi){ks:List Int}:∀ {lo hi:Int}{rs:List Rw},WL P lo hi ks rs→lo≤hi:=by
 induction ks with
 | nil=>exact fun h=>Int.le_of_eq h.1
 | cons k ks ih=>exact fun ⟨mid,_,_,h1,h2,_⟩=>Int.le_trans (Int.le_trans (Int.le_of_lt (Int.lt_succ _)) (hP _ _ _ _ h1)) (ih h2)
theorem walks_lt {T:Tab}{d:Nat}:∀ {lo hi home:Int}{above name:MV}{given:Dict}{rs:List Rw},Walks T d lo hi home above name given rs→lo+1≤hi:=by
 induction d with
 | zero=>exact fun h=>h.elim
 | succ d ih=>
  intro lo hi home above name given rs ⟨_,_,_,h⟩
  rcases h with ⟨r,_,hW,_⟩ | ⟨ks,_,hw⟩
  ·exact leafW_lt hW
  ·exact WL.le (fun lo hi k rs h=>ih h) hw
section
variable {t tr cf cn cs ck n:Nat}{T:Tab}{ret:Po MV}{B:Loc→Hp→Prop}{c:Int}{L F:List MV}{lo hi:Int}
theorem Gets.tr' {mid:Int}{L1 F1 L2 F2:List MV}(h1:lo≤mid)(h2:mid≤hi)(a:Gets t tr cf cn cs ck n T ret B c L F lo L1 F1 mid)(b:Gets t tr cf cn cs ck n T ret B c L1 F1 mid L2 F2 hi):Gets t tr cf cn cs ck n T ret B c L F lo L2 F2 hi:=
 fun H0 l H w m hm q=>a H0 l H w m (by omega) fun k l1 H1 hk w1=>b H0 l1 H1 w1 k (by omega) fun k2 l2 H2 hk2 w2=>q k2 l2 H2 (by omega) w2
theorem Gets.one {x:MV}{L' F':List MV}(hlt:lo+1≤hi)(hc:c+12 * lo≤740)
  (f:∀ {N S H l M},TSt t tr cf cn cs ck T (L ++ [x]) F N S H→WLoc t tr cf cn cs ck l→SeenOk S lo→L.length+F.length+N.length+S.length≤750→
   (∀l' H',WPost t tr cf cn cs ck T L' F' hi (L.length+F.length+N.length+S.length+12) H l' H'→M l' H')→walkB (KW n ret B) M l H):Gets t tr cf cn cs ck n T ret B c (L ++ [x]) F lo L' F' hi:=fun H0 l H w m hm q=>by
 obtain ⟨N,S,hl,w,hS,hb,ch⟩:=w
 have el:(L ++ [x]).length=L.length+1:=List.length_append
 rw [el] at hb
 have hs:L.length+F.length+N.length+S.length≤750:=Int.ofNat_le.mp (Int.le_trans (Int.ofNat_le.mpr (Nat.add_le_add_right (Nat.add_le_add_right (Nat.add_le_add_right (Nat.le_succ _) _) _) _)) (Int.le_trans hb (Int.le_trans hc (by decide))))
 have l0:(L ++ [x]).length≤sizeMost:=by rw [el];exact Nat.le_trans (Nat.succ_le_succ (Nat.le_trans (Nat.le_add_right _ _) (Nat.le_trans (Nat.le_add_right _ _) (Nat.le_trans (Nat.le_add_right _ _) hs))):L.length+1≤751) (Nat.le_of_ble_eq_true rfl)
 cases m with
 | zero=>exact absurd (Int.le_trans (Int.le_sub_left_of_add_le hlt) hm) (by decide)
 | succ m=>
  have s:walkB (KW n ret B) (goW n ret B m) l H:=f w hl hS hs fun l' H' ⟨N',S',p1,p2,p3,p4,p5⟩=>q m l' H' (by omega) ⟨N',S',p1,p2,p3,by omega,ch.tr p5⟩
  cases hl
  exact ⟨_,w.l,l0,bT (decide_eq_true (by rw [el];exact Int.ofNat_lt.mpr (Nat.succ_pos _))) s⟩
theorem walk_list {P:Int→Int→Int→List Rw→Prop}{above name:MV}{given:Dict}(hle:∀lo hi k rs,P lo hi k rs→lo+1≤hi)
  (hP:∀ {lo hi k rs},P lo hi k rs→c+12 * hi≤740→∀ {L F},Gets t tr cf cn cs ck n T ret B c (L ++ [itemV k above name given]) F lo L (F ++ rs.map Rw.leaf) hi){ks:List Int} :
  ∀ {lo rs F},WL P lo hi ks rs→c+12 * hi≤740→Gets t tr cf cn cs ck n T ret B c (L ++ ks.reverse.map fun k=>itemV k above name given) F lo L (F ++ rs.map Rw.leaf) hi:=by
 induction ks with
 | nil=>
  rintro lo rs F ⟨rfl,rfl⟩ hc
  show Gets t tr cf cn cs ck n T ret B c (L ++ []) F lo L (F ++ []) lo
  rw [List.append_nil,List.append_nil]
  exact fun H0 l H w m hm q=>q m l H (Int.le_of_eq (by rw [Int.sub_self,Int.add_zero])) w
 | cons k ks ih=>
  rintro lo rs F ⟨mid,rs1,rs2,h1,h2,rfl⟩ hc
  have l2:=WL.le hle h2
  rw [List.reverse_cons,List.map_append,← List.append_assoc,List.map_append,← List.append_assoc]
  exact Gets.tr' (Int.le_trans (Int.le_of_lt (Int.lt_succ _)) (hle _ _ _ _ h1)) l2 (hP h1 (by omega)) (ih h2 hc)
theorem walk_item (d:TDis t tr cf cn cs ck){D:Nat}:∀ {lo hi home above name given rs},Walks T D lo hi home above name given rs→c+12 * hi≤740→∀ {L F},Gets t tr cf cn cs ck n T ret B c (L ++ [itemV home above name given]) F lo L (F ++ rs.map Rw.leaf) hi:=by
 induction D with
 | zero=>exact fun h=>h.elim
 | succ D ih=>
  intro lo hi home above name given rs h hc L F
  have lt:=walks_lt h
  obtain ⟨head,part,nd,h⟩:=h
  rcases h with hf | ⟨ks,hk,hw⟩
  ·exact Gets.one lt (by omega) fun w hl hS hs q=>wp_leaf w d hl hS hs nd hf q
  ·have l2:=WL.le (fun lo hi k rs h=>walks_lt h) hw
   exact Gets.tr' (Int.le_of_lt (Int.lt_succ _)) l2 (Gets.one (Int.le_refl _) (by omega) fun w hl hS hs q=>wp_group w d hl hS hs nd hk q) (walk_list (fun lo hi k rs h=>walks_lt h) (fun h hc=>ih h hc) hw hc)
end
theorem Chg.ext {S:List Nat}{H H':Hp}(c:Chg S H H')(h:∀i∈S,H.length≤i):Ext H H':=⟨c.le,fun i hi=>c.at' i hi fun q=>Nat.lt_irrefl _ (Nat.lt_of_lt_of_le hi (h i q))⟩
theorem sp_fields {t tr n:Nat}{E:Hp→Prop}{T:Tab}{d form:Dict}{ks:List Int}{lo hi:Int}{rs:List Rw}(hf:FormAt T d form)(hk:dlook form (.inr "Fields") =some (.lst (ks.map rf)))(hl:ks.length≤10)(hlh:hi - lo≤50)
  (hw:WL (fun lo hi k rs=>Walks T 3 lo hi k .none .none [] rs) lo hi ks rs):Rd (sees t tr T) (cl (n+9) false E 601 [shv t tr]) (.lst (rs.map Rw.leaf)):=fun Q H q=>in601 (in594 (mk489 (by
 have kl:(ks.map rf).length≤10:=by rw [List.length_map];exact hl
 have l2:(H ++ [cL []]).length=H.length+1:=List.length_append
 have l3:((H ++ [cL []]) ++ [cL []]).length=H.length+2:=List.length_append.trans (congrArg (· +1) l2)
 have l4:(((H ++ [cL []]) ++ [cL []]) ++ [cD []]).length=H.length+3:=List.length_append.trans (congrArg (· +1) l3)
 have x1:Ext H (((H ++ [cL []]) ++ [cL []]) ++ [cD []]):=Ext.rfl'.al.al.al
 have a1:(((H ++ [cL []]) ++ [cL []]) ++ [cD []])[H.length]?=some (cL []):=at_app (at_app at_new)
 have a2:(((H ++ [cL []]) ++ [cL []]) ++ [cD []])[(H ++ [cL []]).length]?=some (cL []):=at_app at_new
 have a3:(((H ++ [cL []]) ++ [cL []]) ++ [cD []])[((H ++ [cL []]) ++ [cL []]).length]?=some (cD []):=at_new
 rw [l3] at a3 ⊢
 rw [l2] at a2 ⊢
 generalize ((H ++ [cL []]) ++ [cL []]) ++ [cD []] =H1 at *
 refine (sp_form hf).run (x1.get q.1.1 |> fun h=>⟨h,x1.get q.1.2⟩) fun H2 x2=>(sp_row (.inl (get_some hk))).run (V:=vAll) trivial fun H3 x3=>⟨rfl,Nat.le_trans kl (Nat.le_of_ble_eq_true rfl),?_⟩
 have e:((ks.map rf).reverse.flatMap fun v=>[.tup [v, .none, .none, .dct []]]) = [] ++ ks.reverse.map (fun k=>itemV k .none .none []):=by
  rw [← List.map_reverse,flat_map];rfl
 refine (each_rd (V:=vAll) (g:=fun v=>[.tup [v, .none, .none, .dct []]]) fun v hv Q H q=>⟨Nat.zero_le _,q.now⟩).run trivial fun H4 x4=>?_
 rw [e]
 have x14:=(x2.tr x3).tr x4
 have le4:H.length+3≤H4.length:=l4▸x14.le
 have x:=(x1.tr x14).al (c:=cL ([] ++ ks.reverse.map (fun k=>itemV k .none .none [])))
 have ht:=at_lt q.1.1
 have htr:=at_lt q.1.2
 have dis:TDis t tr H.length (H.length+1) (H.length+2) H4.length:=by constructor <;> omega
 have hs:∀i∈ [H.length,H.length+1,H.length+2,H4.length],H.length≤i:=by
  simp only [List.forall_mem_cons];exact ⟨Nat.le_refl _,Nat.le_add_right _ _,Nat.le_add_right _ _,Nat.le_trans (Nat.le_add_right _ _) le4,nofun⟩
 have lm:([] ++ ks.reverse.map (fun k=>itemV k .none .none [])).length≤10:=by rw [List.nil_append,List.length_map,List.length_reverse];exact hl
 have lm2:((([] ++ ks.reverse.map (fun k=>itemV k .none .none [])).length+0+0+0:Nat):Int)≤60 - 12 * lo+12 * lo:=by omega
 refine ⟨Nat.le_trans lm (Nat.le_of_ble_eq_true rfl),walk_list (t:=t) (tr:=tr) (n:=n) (T:=T) (c:=60 - 12 * lo) (L:=[]) (F:=[]) (fun lo hi k rs h=>walks_lt h) (fun h hc=>walk_item dis h hc) hw (by omega) H _ _ (.mk [] [] .mk ⟨(sees t tr T).mono x q.1,(x14.al).get a1,(x14.al).get a2,(x14.al).get a3,at_new⟩ nofun lm2 (.of x)) 1000 (by omega) fun k l' H' hk' ⟨N,S,hl',w,_,_,ch⟩=>?_⟩
 cases hl'
 cases k with
 | zero=>exact absurd hk' (by omega)
 | succ k=>exact ⟨_,w.l,Nat.zero_le _,_,_,w.f,trivial,q.ex ((ch.ext hs).st (Nat.le_refl _))⟩)))
end Mine
end
section
namespace Mine
open PySem
theorem each_map {α τ:Type}{V:View}{f:MV→Po (List τ)→Hp→Prop}{u:α→MV}{g:α→List τ}{rs:List α}(h:∀r∈rs,Rd V (f (u r)) (g r)):Rd V (eachM f (rs.map u)) (rs.flatMap g):=by
 induction rs with
 | nil=>exact fun Q H q=>q.now
 | cons x xs ih=>exact fun Q H q=>h x (.head _) _ H ((ih fun y hy=>h y (.tail _ hy)).ev (Q:=fun zs=>Q (g x ++ zs)) q)
theorem flat_one {α β:Type}{g:α→β}{xs:List α}:xs.flatMap (fun x=>[g x]) =xs.map g:=by
 induction xs with
 | nil=>rfl
 | cons x xs ih=>exact congrArg (g x:: ·) ih
theorem flat_if {α β:Type}{p:α→Bool}{u:α→β}{xs:List α}:xs.flatMap (fun x=>bif p x then [u x] else []) = (xs.filter p).map u:=by
 induction xs with
 | nil=>rfl
 | cons x xs ih=>
  rw [List.flatMap_cons,List.filter_cons,ih]
  cases p x <;> rfl
inductive Part {α:Type}(u:α→MV)(all:List α)(xs:List MV)(dn:List α):Prop
 | mk (rest:List α):xs=rest.map u→dn ++ rest=all→Part u all xs dn
section
variable {α:Type}{u:α→MV}{all dn:List α}{x:MV}{xs:List MV}
theorem Part.start:Part u all (all.map u) []:= .mk all rfl rfl
theorem Part.done (a:Part u all [] dn):dn=all:=by
 obtain ⟨rest,e,a⟩:=a
 cases rest with
 | nil=>exact (List.append_nil dn).symm.trans a
 | cons e r=>cases e
theorem Part.next (a:Part u all (x::xs) dn):∃r,x=u r∧r∈all∧dn.length < all.length∧Part u all xs (dn ++ [r]):=by
 obtain ⟨rest,e,a⟩:=a
 cases rest with
 | nil=>cases e
 | cons r rest=>
  obtain ⟨e1,e2⟩:=List.cons.inj e
  exact ⟨r,e1,by rw [← a];exact List.mem_append_right _ (.head _),by rw [← a,List.length_append];exact Nat.lt_add_of_pos_right (Nat.succ_pos _),_,e2,(List.append_assoc ..).trans a⟩
theorem Part.le (a:Part u all xs dn):dn.length≤all.length:=by
 obtain ⟨rest,e,a⟩:=a
 rw [← a,List.length_append];exact Nat.le_add_right _ _
end
theorem asInt_of {u:MV}{i:Int}{P:Int→Prop}(e:u= .int i)(q:P i):asInt u P:=by subst e;exact q
theorem fdM_of {u v:MV}{c:Addr}{i:Nat}{P:MV→Prop}(e:u=v)(q:fdM c i v P):fdM c i u P:=by subst e;exact q
theorem iterM_of {u v:MV}{hd:Bool}{P:List MV→Prop}(e:u=v)(q:iterM hd v P):iterM hd u P:=by subst e;exact q
section
variable {V:View}{t tr n:Nat}{E:Hp→Prop}{h d form:Dict}{f:Int}{w:String}{T:Tab}
theorem sp_named {ks:List Int}{lo hi:Int}{rs:List Rw}{nv:Str}(hf:FormAt T d form)(hk:dlook form (.inr "Fields") =some (.lst (ks.map rf)))(hl:ks.length≤10)(hlh:hi - lo≤50)
  (hw:WL (fun lo hi k rs=>Walks T 3 lo hi k .none .none [] rs) lo hi ks rs) (hr:rs.length≤100) (hne:∃r∈rs,r.name=nv):Rd (sees t tr T) (cl (n+10) false E 606 [shv t tr, .str nv]) (.lst ((rs.filter fun r=>strB r.name nv).map Rw.leaf)):=fun Q H q=>in606 ((sp_fields hf hk hl hlh hw).run q.1 fun H2 x2=>
 ⟨by rw [List.length_map];exact Nat.le_trans hr (Nat.le_of_ble_eq_true rfl),(each_map (V:=vAll) (g:=fun r:Rw=>bif strB r.name nv then [r.leaf] else []) fun r hr Q H q=>by
  cases h:strB r.name nv with
  | true=>rw [h] at q;exact bT h q.now
  | false=>rw [h] at q;exact bF h q.now).run trivial fun H3 x3=>by
  rw [flat_if]
  have lm:((rs.filter fun r=>strB r.name nv).map Rw.leaf).length≤sizeMost:=by rw [List.length_map];exact Nat.le_trans (List.length_filter_le ..) (Nat.le_trans hr (Nat.le_of_ble_eq_true rfl))
  have l0:((((rs.filter fun r=>strB r.name nv).map Rw.leaf).length:Int) == 0) =false:=by
   obtain ⟨r,hr,e⟩:=hne
   rw [List.length_map]
   exact beq_eq_false_iff_ne.mpr fun w=>List.filter_eq_nil_iff.mp (List.length_eq_zero_iff.mp (Int.ofNat.inj w)) r hr (decide_eq_true e)
  exact ⟨lm,lm,bF l0 (q.ex (x2.tr x3))⟩⟩)
theorem place_ok:∀p:Fin 27,((p.1:Int) - 1).toNat=p.1 - 1∧(1≤p.1→0≤(p.1:Int) - 1)∧(p.1:Int) - 1≤100∧(0:Int) < 2 ^ ((p.1:Int) - 1).toNat∧(2:Int) ^ ((p.1:Int) - 1).toNat < 1073741824:=by decide +kernel
theorem ff_get (hf:FfOk h f):(dlook h (.inr "Ff")).getD (.int 0) = .int f:=by
 rcases hf.at_ with ⟨h1,rfl⟩ | h1
 ·rw [h1];rfl
 ·rw [h1];rfl
theorem sp_lflag {p:Nat}(hf:FfOk h f)(hp:1≤p∧p≤26):Rd V (cl (n+1) false E 744 [.dct h, .int p]) (.bool (fbit f p)):=fun Q H q=>in744 (by
 obtain ⟨e,a,b,c,d⟩:=place_ok ⟨p,Nat.lt_succ_of_le hp.2⟩
 unfold fbit at q
 rw [← e] at q
 exact ⟨.inl rfl,a hp.1,b,asInt_of (ff_get hf) ⟨c,d,by decide,q.now⟩⟩)
theorem ft_get (hw:FtOk h w):(dlook h (.inr "FT")).getD (nmv "") =nmv w∧w∈words:=by
 cases hw with
 | no h1 e=>subst e;rw [h1];exact ⟨rfl, .head _⟩
 | at_ h1 hm=>rw [h1];exact ⟨rfl,hm⟩
theorem sp_lkind (hw:FtOk h w)(hf:FfOk h f):Rd V (cl (n+2) false E 751 [.dct h]) (.str (kindS w f)):=fun Q H q=>in751 (mk195 (by
 obtain ⟨e,hm⟩:=ft_get hw
 refine fdM_of e ?_
 cases hb:w == "Btn" with
 | true=>
  have q:Ev V (Q (.str (btnK f).s)) H:=by unfold kindS kindK at q;rw [hb] at q;exact q
  unfold btnK at q
  refine bT ((btn_is w hm).trans hb) ((sp_lflag (p:=17) hf (by decide)).run q.1 fun H3 e3=>?_)
  cases h17:fbit f 17 with
  | true=>rw [h17] at q;exact q.ex e3
  | false=>
   rw [h17] at q
   refine (sp_lflag (p:=16) hf (by decide)).run (V.mono e3 q.1) fun H5 e5=>?_
   cases h16:fbit f 16 with
   | true=>rw [h16] at q;exact q.ex (e3.tr e5)
   | false=>rw [h16] at q;exact q.ex (e3.tr e5)
 | false=>
  have q:Ev V (Q (.str (plainK w).s)) H:=by unfold kindS kindK at q;rw [hb] at q;exact q
  rw [← kind_is w hm hb] at q
  exact bF ((btn_is w hm).trans hb) ⟨by decide +kernel,q.now⟩))
theorem sp_lplain {b:List UInt8}(h:b.length≤1000):Rd V (cl (n+1) false E 756 [sg b]) (.str (textS b)):=fun Q H q=>in756
 ⟨rfl,Nat.le_trans h (by decide),(each_map (V:=V) (g:=fun o:UInt8=>[.str (oneS o)]) fun o ho Q H q=>⟨rfl,Int.natCast_nonneg _,Int.ofNat_lt.mpr (UInt8.toNat_lt o),q.now⟩).run q.1 fun H2 e=>by
  rw [flat_one,show b.map (fun o=>MV.str (oneS o)) = (b.map oneS).map .str from List.map_map.symm]
  exact ⟨by rw [List.length_map,List.length_map];exact Nat.le_trans h (by decide),rfl,rfl,_,rfl,by rw [sum_ones,List.length_map];exact Nat.le_trans (Nat.add_le_add h h) (by decide),by rw [join_ones];exact q.ex e⟩⟩
theorem sp_textin {b:List UInt8}(h:plainB b):Rd V (cl (n+3) false E 613 [shv t tr,sg b]) (.str (textS b)):=fun Q H q=>in613 ((sp_fetch (v:=sg b) rfl (.inr rfl)).run q.1 fun H2 e=>(sp_text h).run (V.mono e q.1) fun H3 e3=>q.ex (e.tr e3))
theorem sp_statein {s:Str}:Rd V (cl (n+2) false E 620 [shv t tr,nmv s]) (.str s):=fun Q H q=>in620 ((sp_fetch (v:=nmv s) rfl (.inl rfl)).run q.1 fun H2 e=>q.ex e)
structure Opt where
 pair:Bool
 a:List UInt8
 b:List UInt8
 s:String
 u:String
noncomputable def opts:List Opt:=[⟨false,[97],[97],"a","a"⟩,⟨true,[97,98,99],[76,111,110,103],"abc","Long"⟩,⟨false,[97,98,99,100],[97,98,99,100],"abcd","abcd"⟩]
noncomputable def Opt.v (o:Opt):MV:=bif o.pair then .lst [sg o.a,sg o.b] else sg o.a
noncomputable def Opt.p (o:Opt):MV:= .tup [.str o.s, .str o.u]
noncomputable def Opt.e (o:Opt):MV:= .str o.s
theorem opt_ok:∀o∈opts,((∀x∈o.a,32≤x.toNat∧x.toNat < 127)∧o.a.length≤1000)∧((∀x∈o.b,32≤x.toNat∧x.toNat < 127)∧o.b.length≤1000)∧textS o.a= (o.s:Str)∧textS o.b= (o.u:Str)∧(o.pair=false→o.s=o.u):=by
 unfold opts
 simp only [List.forall_mem_cons]
 exact ⟨by decide +kernel,by decide +kernel,by decide +kernel,nofun⟩
inductive OpOk (h:Dict)(op:Nat):Prop
 | no:op=0→dlook h (.inr "Opt") =none→OpOk h op
 | at_:1≤op→op≤3→dlook h (.inr "Opt") =some (.lst ((opts.take op).map Opt.v))→OpOk h op
noncomputable def strsV (l:List String):MV:= .lst (l.map fun s=> .str (Str.ofString s))
theorem opt_le {op:Nat}:(opts.take op).length≤3:=by rw [List.length_take];exact Nat.min_le_right _ 3
theorem sp_lexports {op:Nat}(ho:OpOk h op):Rd V (cl (n+2) false E 776 [.dct h]) (.lst ((opts.take op).map Opt.e)):=fun Q H q=>in776 (by
 have e:(dlook h (.inr "Opt")).getD (.lst []) = .lst ((opts.take op).map Opt.v):=by
  cases ho with
  | no e h=>rw [h,e];rfl
  | at_ _ _ h=>rw [h];rfl
 have lm:∀ {f:Opt→MV},((opts.take op).map f).length≤sizeMost:=fun {f}=>by rw [List.length_map];exact Nat.le_trans opt_le (Nat.le_of_ble_eq_true rfl)
 refine ⟨Nat.zero_le _,iterM_of e ⟨lm,(each_map (V:=V) (g:=fun o:Opt=>[o.e]) fun o ho Q H q=>?_).run q.1 fun H2 x=>by rw [flat_one];exact ⟨lm,q.ex x⟩⟩⟩
 obtain ⟨h1,h2,h3,h4,h5⟩:=opt_ok o (List.mem_of_mem_take ho)
 obtain ⟨pair,a,b,s,u⟩:=o
 have k:=sp_lplain (V:=V) (n:=n) (E:=noE) h1.2
 rw [h3] at k
 cases pair with
 | true=>exact ⟨0,rfl,by decide,_,rfl,k _ _ q⟩
 | false=>exact k _ _ q)
end
end Mine
end
section
namespace Mine
open PySem
noncomputable def PlainT (s:Str):Prop:=(∀c∈s.cps.toList,32≤c∧c < 127)∧s.cps.toList.length≤100
noncomputable def octB (s:Str):List UInt8:=s.cps.toList.map UInt8.ofNat
noncomputable def subs:List (List String):=[[],["Off"],["x"],["y"],["Off","x"],["Off","y"],["x","y"],["Off","x","y"]]
noncomputable def strV (s:String):MV:= .str (Str.ofString s)
noncomputable def stD (s:List String):Dict:=s.map fun k=>(.inr (Str.ofString k), .int 0)
structure ApOk (d:Dict)(s:List String):Prop where
 ap:dlook d (.inr "AP") =some (.dct [(.inr "N", .dct (stD s))])
 mem:s∈subs
noncomputable def onS (s:List String):List String:=s.filter (· != "Off")
theorem sub_ok:∀s∈subs,s.length≤3∧sortBy strLe (s.map Str.ofString) =s.map Str.ofString∧∀k∈s,(!strB (Str.ofString k) "Off") = (k != "Off"):=by decide +kernel
section
variable {V:View}{t tr n:Nat}{E:Hp→Prop}{h d:Dict}{T:Tab}
theorem sp_options {op:Nat}{a b c d e:MV}(ho:OpOk h op):Rd V (cl (n+4) false E 627 [shv t tr,leafV a b c d (.dct h) e]) (.lst ((opts.take op).map Opt.p)):=fun Q H q=>in627 ⟨Nat.zero_le _,by
 have e1:(dlook h (.inr "Opt")).getD .none= .lst ((opts.take op).map Opt.v)∨dlook h (.inr "Opt") =none∧(opts.take op).map Opt.v= []:=by
  cases ho with
  | no e h=>exact .inr ⟨h,by rw [e];rfl⟩
  | at_ _ _ h=>exact .inl (by rw [h];rfl)
 refine (sp_row e1).run (V:=vAll) trivial fun H2 x2=>⟨by rw [List.length_map];exact Nat.le_trans opt_le (Nat.le_of_ble_eq_true rfl),forL_inv (fun xs l H'=>∃dn u v,Part Opt.v (opts.take op) xs dn∧l= [some (shv t tr),some (leafV a b c d (.dct h) e),some (.ref H.length),u,v,none,none,none,none,none]∧H'[H.length]?=some (cL (dn.map Opt.p))∧Ext H H') (fun x xs l H' i N' hN=>?_) (fun l H' i=>?_) ⟨[],none,none, .start,rfl,x2.get at_new,Ext.rfl'.al.tr x2⟩⟩
 ·obtain ⟨dn,u,v,a,rfl,hc,e⟩:=i
  obtain ⟨o,rfl,ho,lt,a⟩:=a.next
  obtain ⟨h1,h2,h3,h4,h5⟩:=opt_ok o (List.mem_of_mem_take ho)
  have lm:(dn.map Opt.p).length < sizeMost:=by rw [List.length_map];exact Nat.lt_of_lt_of_le (Nat.lt_of_lt_of_le lt opt_le) (Nat.le_of_ble_eq_true rfl)
  have fin:∀u v H3,Ext H' H3→N' [some (shv t tr),some (leafV _ b c d (.dct h) _),some (.ref H.length),u,v,none,none,none,none,none] (H3.set H.length (cL (dn.map Opt.p ++ [o.p]))):=fun u v H3 x=>hN _ _ ⟨_,u,v,a,rfl,by rw [List.map_append];exact at_set (x.get hc),(e.tr x).st (Nat.le_refl _)⟩
  have k1:=sp_textin (V:=vAll) (t:=t) (tr:=tr) (n:=n) (E:=E) h1
  have k2:=sp_textin (V:=vAll) (t:=t) (tr:=tr) (n:=n) (E:=E) h2
  rw [h3] at k1
  rw [h4] at k2
  obtain ⟨pair,oa,ob,s,w⟩:=o
  cases pair with
  | true=>exact (sp_fetch (V:=vAll) (v:= .lst [sg oa,sg ob]) rfl trivial).run trivial fun H3 x3=>⟨show 2≤sizeMost from Nat.le_of_ble_eq_true rfl,_,x3.get hc,⟨0,rfl,by decide,_,rfl,k1.run trivial fun H4 x4=>⟨1,rfl,by decide,_,rfl,k2.run trivial fun H5 x5=>⟨_,((x3.tr x4).tr x5).get hc,lm,fin _ _ _ ((x3.tr x4).tr x5)⟩⟩⟩⟩
  | false=>
   cases h5 rfl
   exact (sp_fetch (V:=vAll) (v:=sg oa) rfl (.inr rfl)).run trivial fun H3 x3=>⟨_,x3.get hc,k1.run trivial fun H4 x4=>k1.run trivial fun H5 x5=>⟨_,((x3.tr x4).tr x5).get hc,lm,fin _ _ _ ((x3.tr x4).tr x5)⟩⟩
 ·obtain ⟨dn,u,v,a,rfl,hc,e⟩:=i
  rw [a.done] at hc
  exact ⟨_,_,hc,trivial,q.ex (e.st (Nat.le_refl _))⟩⟩
theorem sp_octet {c:Nat}(h:32≤c∧c < 127):Rd V (cl (n+2) false E 405 [.int c]) (.int c):=fun Q H q=>in405 (bT (decide_eq_true (show (c:Int) < 256 by omega)) ((sp_sign (o:=c) ⟨by omega,by omega⟩).run q.1 fun H2 x=>bT (beq_self_eq_true (c:Int)) (q.ex x)))
theorem ints_ok {i:Int}{l:List Nat}(h:∀c∈l,(c:Int)≠i):allOk (.int i) (l.map natV)∧((l.map natV).any fun y=>eqB y (.int i)) =false:=by
 induction l with
 | nil=>exact ⟨trivial,rfl⟩
 | cons c l ih=>
  obtain ⟨a,b⟩:=ih fun c hc=>h c (.tail _ hc)
  exact ⟨⟨trivial,a⟩,by rw [List.map_cons,List.any_cons,b,show eqB (natV c) (.int i) =false from beq_eq_false_iff_ne.mpr (h c (.head _))];rfl⟩
theorem oct_map {s:Str}(h:PlainT s):s.cps.toList.map natV= (octB s).map octV:=by
 unfold octB
 rw [List.map_map]
 exact List.map_congr_left fun c hc=>congrArg MV.int (congrArg Int.ofNat (show c=c % 256 from (Nat.mod_eq_of_lt (Nat.lt_trans (h.1 c hc).2 (by decide))).symm))
theorem sp_octets {s:Str}(h:PlainT s):Rd V (cl (n+3) false E 424 [.str s]) (.bytes (octB s)):=fun Q H q=>in424 ⟨rfl,fun c hc=>Nat.lt_of_lt_of_le (h.1 c hc).2 (by decide),Nat.le_trans h.2 (Nat.le_of_ble_eq_true rfl),(each_map (V:=V) (g:=fun c:Nat=>[natV c]) fun c hc Q H q=>⟨rfl,c,rfl,sp_octet (h.1 c hc) _ _ q⟩).run q.1 fun H2 x2=>by
 have lm:(s.cps.toList.map natV).length≤sizeMost:=by rw [List.length_map];exact Nat.le_trans h.2 (Nat.le_of_ble_eq_true rfl)
 have o:=ints_ok (i:= -1) (l:=s.cps.toList) fun c _ w=>by omega
 have ne:(!decide ((s.cps.toList.map Int.ofNat).take 2= [254,255])) =true:=by
  rw [Bool.not_eq_true',decide_eq_false_iff_not]
  intro w
  cases hs:s.cps.toList with
  | nil=>rw [hs] at w;cases w
  | cons c l=>
   rw [hs] at w
   have:=(h.1 c (by rw [hs];exact .head _)).2
   have e:=(List.cons.inj w).1
   exact absurd (Int.ofNat.inj e) (Nat.ne_of_lt (Nat.lt_trans this (by decide)))
 rw [flat_one]
 refine ⟨lm,o.1,bT (congrArg not o.2) ⟨2,rfl,lm,by decide,(s.cps.toList.map Int.ofNat).take 2,?_,[254,255],rfl,bT ne ⟨rfl,octB s,oct_map h,?_,q.ex x2⟩⟩⟩
 ·rw [← List.map_take,← List.map_take,List.map_map];rfl
 ·unfold octB;rw [List.length_map];exact Nat.le_trans h.2 (Nat.le_of_ble_eq_true rfl)⟩
theorem sp_onstates {w:Int}{s:List String}(hw:tget T w=some d)(hd:ApOk d s):Rd (sees t tr T) (cl (n+3) false E 632 [shv t tr,rf w]) (strsV (onS s)):=fun Q H q=>in632 ((sp_fetch_ref rfl hw).run q.1 fun H2 x2=>(sp_get (get_some hd.ap) trivial).run (V:=vAll) trivial fun H3 x3=>(sp_get (h:=[(.inr "N", .dct (stD s))]) (v:= .dct (stD s)) rfl trivial).run (V:=vAll) trivial fun H4 x4=>by
 obtain ⟨l3,so,on⟩:=sub_ok s hd.mem
 have lm:∀ {α:Type}{f:String→α},(s.map f).length≤sizeMost:=fun {_ f}=>by rw [List.length_map];exact Nat.le_trans l3 (Nat.le_of_ble_eq_true rfl)
 refine .inr ⟨s.map Str.ofString,by unfold keysV stD;rw [List.map_map,List.map_map];rfl,by rw [List.length_map];exact Nat.lt_of_le_of_lt l3 (by decide),?_⟩
 rw [so,List.map_map]
 refine ⟨lm,lm,(each_map (V:=vAll) (u:=strV) (g:=fun k:String=>bif k != "Off" then [strV k] else []) fun k hk Q H q=>?_).run trivial fun H5 x5=>?_⟩
 ·cases h:k != "Off" with
  | true=>rw [h] at q;exact bT ((on k hk).trans h) q.now
  | false=>rw [h] at q;exact bF ((on k hk).trans h) q.now
 ·rw [flat_if]
  exact ⟨by rw [List.length_map];exact Nat.le_trans (List.length_filter_le ..) (Nat.le_trans l3 (Nat.le_of_ble_eq_true rfl)),q.ex (((x2.tr x3).tr x4).tr x5)⟩)
end
end Mine
end
section
namespace Mine
open PySem
inductive Val where
 | s (t:Str)
 | l (ts:List Str)
 | n
noncomputable def Val.mv:Val→MV
 | .s t=> .str t
 | .l ts=> .lst (ts.map .str)
 | .n=> .int 7
noncomputable def Val.texts:Val→List Str
 | .s t=>[t]
 | .l ts=>ts
 | .n=>[]
noncomputable def Val.items:Val→List MV
 | .s t=>[.str t]
 | .l ts=>ts.map .str
 | .n=>[.int 7]
noncomputable def Val.isL:Val→Bool
 | .l _=>true
 | _=>false
noncomputable def Val.isS:Val→Bool
 | .s _=>true
 | _=>false
noncomputable def valAll:List Val:=[.s "abc", .s "x", .s "Off", .s "abcd", .s "y", .s "", .l ["abc","a"], .l ["abc"], .l [], .l ["a","a"], .n]
theorem val_ok:∀v∈valAll,(∀t∈v.texts,(∀c∈t.cps.toList,32≤c∧c < 127)∧t.cps.toList.length≤100)∧v.items.length≤10:=by decide +kernel
noncomputable def WSts (T:Tab):List Int→List (List String)→Prop
 | [],[]=>True
 | w::ws,s::ss=>(∃d,tget T w=some d∧ApOk d s)∧WSts T ws ss
 | _,_=>False
structure RowOk (T:Tab)(r:Rw):Prop where
 ft:FtOk r.whole r.w
 ftP:FtOk r.wholeP r.w
 ff:FfOk r.whole r.f
 ffP:FfOk r.wholeP r.f
 mx:dlook r.whole (.inr "MaxLen") =r.mx.map MV.int
 mxP:dlook r.wholeP (.inr "MaxLen") =r.mx.map MV.int
 mx3:r.mx=none∨r.mx=some 3
 op:OpOk r.whole r.op
 opP:OpOk r.wholeP r.op
 nl:r.name.length≤100
 wl:r.wids.length≤10
 sts:WSts T r.wids r.sts
 head:∃d,tget T r.num=some d
noncomputable def memB (x:MV)(l:List MV):Bool:=l.any fun y=>eqB y x
noncomputable def isStr (x:MV):Bool:=match x with
 | .str _=>true
 | _=>false
theorem str_of {x:MV}(h:isStr x=true):∃s,x= .str s:=by
 cases x with
 | str s=>exact ⟨s,rfl⟩
 | _=>cases h
noncomputable def exs (op:Nat):List MV:=(opts.take op).map Opt.e
noncomputable def okItem (ex:List MV)(free:Bool)(prev:List MV)(x:MV):Bool:=isStr x && (!memB x prev && (memB x ex || free))
noncomputable def okList (ex:List MV)(free:Bool):List MV→List MV→Bool
 | _,[]=>true
 | prev,x::xs=>okItem ex free prev x && okList ex free (prev ++ [x]) xs
noncomputable def choiceOk (f:Int)(ex:List MV)(v:Val):Bool:=bif v.isL && (fbit f 18 || !fbit f 22) then false else okList ex (fbit f 18 && fbit f 19) [] v.items
noncomputable def stNames (sts:List (List String)):List MV:=sts.flatMap fun s=>s.map strV
noncomputable def Val.off (v:Val):Bool:=match v with
 | .s t=>strB t "Off"
 | _=>false
noncomputable def buttonOk (rad:Bool)(f:Int)(sts:List (List String))(v:Val):Bool:=bif v.off then !(rad && fbit f 15) else memB v.mv (stNames sts)
noncomputable def textOk (mx:Option Int)(v:Val):Bool:=match v with
 | .s t=>decide ((t.length:Int)≤3) || !mx.isSome
 | _=>false
noncomputable def letK (k:Kd)(r:Rw)(v:Val):Bool:=match k with
 | .text=>textOk r.mx v
 | .choice=>choiceOk r.f (exs r.op) v
 | .check=>buttonOk false r.f r.sts v
 | .radio=>buttonOk true r.f r.sts v
 | _=>false
noncomputable def letB (r:Rw)(v:Val):Bool:= !fbit r.f 1 && letK (kindK r.w r.f) r v
structure Rng (items:List MV)(xs prev rest:List MV):Prop where
 xs:xs= (List.range' prev.length rest.length).map natV
 all:prev ++ rest=items
section
variable {items xs prev rest:List MV}{x:MV}
theorem Rng.start:Rng items ((List.range items.length).map natV) [] items:=⟨by rw [List.range_eq_range'];rfl,rfl⟩
theorem Rng.done (a:Rng items [] prev rest):rest= []:=by
 cases rest with
 | nil=>rfl
 | cons e r=>cases a.xs
theorem Rng.next (a:Rng items (x::xs) prev rest):∃it r,rest=it::r∧x=natV prev.length∧items[prev.length]?=some it∧items.take prev.length=prev∧Rng items xs (prev ++ [it]) r:=by
 cases rest with
 | nil=>cases a.xs
 | cons e r=>
  obtain ⟨e1,e2⟩:=List.cons.inj a.xs
  refine ⟨e,r,rfl,e1,?_,?_,?_,(List.append_assoc ..).trans a.all⟩
  ·rw [← a.all,List.getElem?_append_right (Nat.le_refl _),Nat.sub_self];rfl
  ·rw [← a.all];exact List.take_left
  ·rw [List.length_append,List.length_singleton];exact e2
end
theorem str_ok {x:MV}{l:List MV}(h:∀y∈l,isStr y=true)(hx:isStr x=true∨x= .int 7∨∃ts,x= .lst ts):allOk x l:=by
 induction l with
 | nil=>trivial
 | cons y l ih=>
  refine ⟨?_,ih fun z hz=>h z (.tail _ hz)⟩
  obtain ⟨s,rfl⟩:=str_of (h y (.head _))
  rcases hx with hx | rfl | ⟨ts,rfl⟩
  ·obtain ⟨u,rfl⟩:=str_of hx;trivial
  ·trivial
  ·trivial
theorem exs_str {op:Nat}:∀y∈exs op,isStr y=true:=fun y hy=>by
 obtain ⟨o,_,rfl⟩:=List.mem_map.mp hy
 rfl
theorem names_str {sts:List (List String)}:∀y∈stNames sts,isStr y=true:=fun y hy=>by
 obtain ⟨s,_,h⟩:=List.mem_flatMap.mp hy
 obtain ⟨k,_,rfl⟩:=List.mem_map.mp h
 rfl
theorem val_cases (v:Val):isStr v.mv=true∨v.mv= .int 7∨∃ts,v.mv= .lst ts:=by
 cases v with
 | s t=>exact .inl rfl
 | l ts=>exact .inr (.inr ⟨_,rfl⟩)
 | n=>exact .inr (.inl rfl)
theorem items_ok {v:Val}:(∀y∈v.items,isStr y=true)∨v= .n:=by
 cases v with
 | s t=>exact .inl fun y hy=>by rw [List.mem_singleton.mp hy];rfl
 | l ts=>
  exact .inl fun y hy=>by
   obtain ⟨s,_,rfl⟩:=List.mem_map.mp hy
   rfl
 | n=>exact .inr rfl
theorem eqM_v {v:Val}{Q:Bool→Prop}(q:Q v.off):eqM v.mv (.str "Off") Q:=by cases v <;> exact q
theorem isStr_i {x:MV}{h:Hp}{Q:Bool→Prop}(hx:isStr x=true∨x= .int 7∨∃ts,x= .lst ts)(q:Q (isStr x)):isInst .str x h Q:=by
 rcases hx with hx | rfl | ⟨ts,rfl⟩
 ·obtain ⟨u,rfl⟩:=str_of hx;exact q
 ·exact q
 ·exact q
theorem isLst_i {v:Val}{h:Hp}{Q:Bool→Prop}(q:Q v.isL):isInst .lst v.mv h Q:=by cases v <;> exact q
theorem vals_i {v:Val}{K:Kx}{l:Loc}{i:Nat}{Q:Po MV}{H:Hp}(e:lat l i=some v.mv)(q:Q (.lst v.items) H):tIf (tv (isC .lst (lv i))) (lv i) (lstC false [lv i]) K l Q H:=by
 have a:∀ {P:MV→Prop},P v.mv→oM (lat l i) P:=fun p=>by rw [e];exact p
 cases v with
 | l ts=>exact a (a q)
 | s t=>exact a (a ⟨show 1≤sizeMost from Nat.le_of_ble_eq_true rfl,q⟩)
 | n=>exact a (a ⟨show 1≤sizeMost from Nat.le_of_ble_eq_true rfl,q⟩)
noncomputable def islB:Cs:=(sq (ifS (tOr (tNot (tv (isC .str (itm (lv 6) (lv 8))))) (tOr (tCmp .in (itm (lv 6) (lv 8)) (tke (lv 6) (lv 8))) (tOr (tAnd (tCmp .notin (itm (lv 6) (lv 8)) (kall 776 [(lv 3)])) (tAnd (tNot (tv (lv 7))) yes)) tfl))) (sq (retS (cst (.bool false))) skp) skp) skp)
noncomputable def islC:Cs:=(sq (asS (.one 6) (tIf (tv (isC .lst (lv 2))) (lv 2) (lstC false [(lv 2)]))) (sq (ifS (tAnd (tv (isC .lst (lv 2))) (tAnd (tOr (tv (kall 744 [(lv 3),(cst (.int 18))])) (tOr (tNot (tv (kall 744 [(lv 3),(cst (.int 22))]))) tfl)) yes)) (sq (retS (cst (.bool false))) skp) skp) (sq (asS (.one 7) (ofT (tAnd (tv (kall 744 [(lv 3),(cst (.int 18))])) (tv (kall 744 [(lv 3),(cst (.int 19))]))))) (sq (forS (.one 8) (iran (blt false .len [(lv 6)])) islB) (sq (retS (cst (.bool true))) skp)))))
section
variable {V:View}{t tr n:Nat}{E:Hp→Prop}{T:Tab}{r:Rw}{v:Val}{H:Hp}{Q:Po MV}{M:Loc→Hp→Prop}
theorem range_le {items:List MV}(h:items.length≤10):(items.length:Int)≤sizeMost∧ -1000000≤(items.length:Int):=⟨Int.ofNat_le.mpr (Nat.le_trans h (Nat.le_of_ble_eq_true rfl)),by omega⟩
theorem isl_loop {whole:Dict}{op:Nat}{free:Bool}{items:List MV}{a b c d e:Option MV}(ho:OpOk whole op)(hl:items.length≤10)(hi:∀y∈items,isStr y=true∨y= .int 7)(hs:∀y∈items,isStr y=true∨items.length=1)
  (q:Ev V (Q (.bool (okList (exs op) free [] items))) H):forL (fun v M l h=>put false (.one 8) v l fun l'=>islB ⟨cl (n+3),E,false,Q,fun l h=>sq (retS (cst (.bool true))) skp ⟨cl (n+3),E,false,Q,fun _ _=>False⟩ (fun _=>Q .none) l h⟩ M l' h) ((List.range items.length).map natV) (sq (retS (cst (.bool true))) skp ⟨cl (n+3),E,false,Q,fun _ _=>False⟩ (fun _=>Q .none)) [a,b,c,some (.dct whole),d,e,some (.lst items),some (.bool free),none,none,none,none,none,none,none,none,none] H:=
 forL_inv (fun xs l H'=>∃prev rest u,Rng items xs prev rest∧l= [a,b,c,some (.dct whole),d,e,some (.lst items),some (.bool free),u,none,none,none,none,none,none,none,none]∧Ext H H'∧okList (exs op) free [] items=okList (exs op) free prev rest) (fun x xs l H' i N' hN=>by
  obtain ⟨prev,rest,u,a,rfl,ex,eq⟩:=i
  obtain ⟨it,r,rfl,rfl,h1,h2,a⟩:=a.next
  have hm:it∈items:=List.mem_of_getElem? h1
  have it_ok:=(hi it hm).imp (fun h=>h) fun h=>Or.inl (b:=∃ts,it=MV.lst ts) h
  have pl:prev.length < 100000:=Nat.lt_of_le_of_lt (Nat.le_trans (by rw [← h2,List.length_take];exact Nat.min_le_right ..) hl) (by decide)
  have ll:items.length≤sizeMost:=Nat.le_trans hl (Nat.le_of_ble_eq_true rfl)
  have fin:okItem (exs op) free prev it=true→∀H2,Ext H' H2→N' _ H2:=fun ok H2 x2=>hN _ _ ⟨prev ++ [it],r,some (natV prev.length),a,rfl,ex.tr x2,by rw [eq];show (okItem _ _ _ _ && _) =_;rw [ok];rfl⟩
  have bad:okItem (exs op) free prev it=false→∀H2,Ext H' H2→Q (.bool false) H2:=fun ok H2 x2=>by
   rw [eq,show okList (exs op) free prev (it::r) = (okItem (exs op) free prev it && okList (exs op) free (prev ++ [it]) r) from rfl,ok] at q
   exact q.ex (ex.tr x2)
  refine ⟨_,rfl,pl,_,h1,isStr_i it_ok ?_⟩
  cases hs1:isStr it with
  | false=>exact bad (by unfold okItem;rw [hs1];rfl) _ .rfl'
  | true=>
   have hp:∀y∈prev,isStr y=true:=fun y hy=>by
    have hy2:y∈items:=by rw [← h2] at hy;exact List.mem_of_mem_take hy
    rcases hs y hy2 with h | h
    ·exact h
    ·have:=List.length_take (i:=prev.length) (l:=items)
     have lt:prev.length < items.length:=(List.getElem?_eq_some_iff.mp h1).1
     rw [h] at lt
     cases prev with
     | nil=>cases hy
     | cons z zs=>exact absurd lt (Nat.not_lt.mpr (Nat.succ_le_succ (Nat.zero_le _)))
   refine ⟨_,rfl,pl,_,h1,_,rfl,ll,?_⟩
   rw [h2]
   refine ⟨str_ok hp it_ok,?_⟩
   cases hm:memB it prev with
   | true=>exact bT hm (bad (by unfold okItem;rw [hs1,hm];rfl) _ .rfl')
   | false=>
    refine bF hm ⟨_,rfl,pl,_,h1,(sp_lexports (V:=vAll) ho).run trivial fun H2 x2=>⟨str_ok exs_str it_ok,?_⟩⟩
    cases he:memB it (exs op) with
    | true=>exact bF (congrArg not he) (fin (by unfold okItem;rw [hs1,hm,he];rfl) _ x2)
    | false=>
     refine bT (congrArg not he) ?_
     cases free with
     | true=>exact fin (by unfold okItem;rw [hs1,hm,he];rfl) _ x2
     | false=>exact bad (by unfold okItem;rw [hs1,hm,he];rfl) _ x2) (fun l H' i=>by
  obtain ⟨prev,rest,u,a,rfl,ex,eq⟩:=i
  rw [eq,a.done] at q
  exact q.ex ex) ⟨[],items,none, .start,rfl, .rfl',rfl⟩
end
end Mine
end
section
namespace Mine
open PySem
theorem each_wst {T:Tab}{τ:Type}{V:View}{f:MV→Po (List τ)→Hp→Prop}{g:List String→List τ}(h:∀w d s,tget T w=some d→ApOk d s→Rd V (f (rf w)) (g s)){ws:List Int}:∀ {ss:List (List String)},WSts T ws ss→Rd V (eachM f (ws.map rf)) (ss.flatMap g):=by
 induction ws with
 | nil=>
  intro ss hs
  cases ss with
  | nil=>exact fun Q H q=>q.now
  | cons _ _=>exact hs.elim
 | cons w ws ih=>
  intro ss hs
  cases ss with
  | nil=>exact hs.elim
  | cons s ss=>
   obtain ⟨⟨d,h1,h2⟩,hs⟩:=hs
   exact fun Q H q=>h w d s h1 h2 _ H ((ih hs).ev (Q:=fun zs=>Q (g s ++ zs)) q)
theorem wsts_le {T:Tab}{g:List String→List MV}(hg:∀s∈subs,(g s).length≤3){ws:List Int}:∀ {ss:List (List String)},WSts T ws ss→(ss.flatMap g).length≤3 * ws.length:=by
 induction ws with
 | nil=>
  intro ss hs
  cases ss with
  | nil=>exact Nat.le_refl _
  | cons _ _=>exact hs.elim
 | cons w ws ih=>
  intro ss hs
  cases ss with
  | nil=>exact hs.elim
  | cons s ss=>
   obtain ⟨⟨d,h1,h2⟩,hs⟩:=hs
   rw [List.flatMap_cons,List.length_append,List.length_cons,Nat.mul_succ,Nat.add_comm]
   exact Nat.add_le_add (ih hs) (hg s h2.mem)
theorem keys_st {s:List String}:keysV (stD s) =s.map strV:=by unfold keysV stD;rw [List.map_map];rfl
theorem map_le {s:List String}(h:s∈subs):(s.map strV).length≤3:=by rw [List.length_map];exact (sub_ok s h).1
section
variable {V:View}{K:Kx}{l:Loc}{M:Loc→Hp→Prop}{H:Hp}{b x y:Cs}{e:Cd MV}{t u:Cd Bool}{i j:Nat}{v w:MV}{c d:Bool}
theorem sA (p:V.p H)(h:Rd V (e K l) v)(q:∀H2,Ext H H2→b K M (lput l i v) H2):sq (asS (.one i) e) b K M l H:=h.run p q
theorem sR (p:V.p H)(h:Rd V (e K l) v)(q:∀H2,Ext H H2→K.ret v H2):sq (retS e) b K M l H:=h.run p q
theorem sI (p:V.p H)(h:Rd V (t K l) c)(qt:c=true→∀H2,Ext H H2→x K (b K M) l H2)(qf:c=false→∀H2,Ext H H2→y K (b K M) l H2):sq (ifS t x y) b K M l H:=h.run p fun H2 x2=>by
 cases c with
 | true=>exact qt rfl H2 x2
 | false=>exact qf rfl H2 x2
theorem sI0 (p:V.p H)(h:Rd V (t K l) c)(qt:c=true→∀H2,Ext H H2→x K (b K M) l H2)(qf:c=false→∀H2,Ext H H2→b K M l H2):sq (ifS t x skp) b K M l H:=sI p h qt qf
theorem sT (p:V.p H)(h:Rd V (t K l) true)(q:∀H2,Ext H H2→x K (b K M) l H2):sq (ifS t x y) b K M l H:=h.run p q
theorem sF0 (p:V.p H)(h:Rd V (t K l) false)(q:∀H2,Ext H H2→b K M l H2):sq (ifS t x skp) b K M l H:=h.run p q
theorem sF (p:V.p H)(h:Rd V (t K l) false)(q:∀H2,Ext H H2→y K (b K M) l H2):sq (ifS t x y) b K M l H:=h.run p q
theorem rAnd (h1:Rd V (t K l) c)(h2:c=true→Rd V (u K l) d):Rd V (tAnd t u K l) (c && d):=fun Q H q=>by
 cases c with
 | true=>exact h1 _ H ((h2 rfl).ev q)
 | false=>exact h1 _ H q
theorem rOr (h1:Rd V (t K l) c)(h2:c=false→Rd V (u K l) d):Rd V (tOr t u K l) (c || d):=fun Q H q=>by
 cases c with
 | true=>exact h1 _ H q
 | false=>exact h1 _ H ((h2 rfl).ev q)
theorem rNot (h:Rd V (t K l) c):Rd V (tNot t K l) (!c):=fun Q H q=>h _ H q
theorem rYes:Rd V (yes K l) true:=fun Q H q=>q.now
theorem rNo:Rd V (tfl K l) false:=fun Q H q=>q.now
theorem rOf (h:Rd V (t K l) c):Rd V (ofT t K l) (.bool c):=fun Q H q=>h _ H q
theorem rTo (h:Rd V (t K l) c):Rd V (tv (ofT t) K l) c:=fun Q H q=>h _ H q
theorem lvE (K:Kx)(e:lat l i=some v){Q:Po MV}(q:Q v H):lv i K l Q H:=by
 show oM (lat l i) _
 rw [e];exact q
theorem rTv (e:lat l i=some (.bool c)):Rd V (tv (lv i) K l) c:=fun Q H q=>lvE K e q.now
theorem rIs {a:Val}(e:lat l i=some a.mv):Rd V (tv (isC .lst (lv i)) K l) a.isL:=fun Q H q=>by
 show lv i K l (fun v h=>isInst .lst v h fun b=>Q b h) H
 refine lvE K e ?_
 cases a <;> exact q.now
theorem rVals {a:Val}(e:lat l i=some a.mv):Rd V (tIf (tv (isC .lst (lv i))) (lv i) (lstC false [lv i]) K l) (.lst a.items):=fun Q H q=>rIs e _ H (by
 cases a with
 | l ts=>exact ⟨q.1,fun H2 x _=>lvE K e (q.ex x)⟩
 | s t=>exact ⟨q.1,fun H2 x _=>lvE K e ⟨show 1≤sizeMost from Nat.le_of_ble_eq_true rfl,q.ex x⟩⟩
 | n=>exact ⟨q.1,fun H2 x _=>lvE K e ⟨show 1≤sizeMost from Nat.le_of_ble_eq_true rfl,q.ex x⟩⟩)
end
section
variable {V:View}{t tr n:Nat}{E:Hp→Prop}{T:Tab}{r:Rw}{v:Val}{H:Hp}{Q:Po MV}{M:Loc→Hp→Prop}
theorem isl_choice {a b d e:Option MV}(hr:RowOk T r)(hv:v∈valAll)(q:Ev V (Q (.bool (choiceOk r.f (exs r.op) v))) H):islC (KF (n+3) false E Q) (fun _=>Q .none) [a,b,some v.mv,some (.dct r.whole),d,e,none,none,none,none,none,none,none,none,none,none,none] H:=by
 obtain ⟨hp,hl⟩:=val_ok v hv
 unfold choiceOk at q
 have fl:∀ {p:Nat}{l:Loc},lat l 3=some (.dct r.whole)→1≤p∧p≤26→Rd V (tv (kall 744 [lv 3,cst (.int p)]) (KF (n+3) false E Q) l) (fbit r.f p):=fun e hp Q' H q=>lvE (KF (n+3) false E Q) e (sp_lflag hr.ff hp _ H q)
 refine sA q.1 (rVals rfl) fun H1 x1=>sI0 (V.mono x1 q.1) (rAnd (rIs rfl) fun _=>rAnd (rOr (fl (p:=18) rfl (by decide)) fun _=>rOr (rNot (fl (p:=22) rfl (by decide))) fun _=>rNo) fun _=>rYes) (fun hb H2 x2=>?_) fun hb H2 x2=>?_
 ·rw [Bool.or_false,Bool.and_true] at hb
  rw [hb] at q
  exact q.ex (x1.tr x2)
 ·rw [Bool.or_false,Bool.and_true] at hb
  have q:=q.to (x1.tr x2)
  rw [hb] at q
  refine sA q.1 (rOf (rAnd (fl (p:=18) rfl (by decide)) fun _=>fl (p:=19) rfl (by decide))) fun H3 x3=>?_
  have li:v.items.length≤sizeMost:=Nat.le_trans hl (Nat.le_of_ble_eq_true rfl)
  have ri:=range_le hl
  have io:(∀y∈v.items,isStr y=true∨y= .int 7)∧∀y∈v.items,isStr y=true∨v.items.length=1:=by
   rcases items_ok (v:=v) with h | rfl
   ·exact ⟨fun y hy=> .inl (h y hy),fun y hy=> .inl (h y hy)⟩
   ·exact ⟨fun y hy=> .inr (List.mem_singleton.mp hy),fun _ _=> .inr rfl⟩
  exact ⟨li,rfl,ri.1,ri.2,isl_loop hr.op hl io.1 io.2 (q.to x3)⟩
noncomputable def Kd.has:Kd→Bool
 | .text=>true
 | .choice=>true
 | .check=>true
 | .radio=>true
 | _=>false
noncomputable def Kd.btn:Kd→Bool
 | .check=>true
 | .radio=>true
 | _=>false
theorem kd_has:∀k:Kd,([.str "text", .str "choice", .str "check", .str "radio"]:List MV).any (fun y=>eqB y (.str k.s)) =k.has:=by intro k;cases k <;> decide +kernel
theorem kd_btn:∀k:Kd,([.str "check", .str "radio"]:List MV).any (fun y=>eqB y (.str k.s)) =k.btn:=by intro k;cases k <;> decide +kernel
theorem rHas {k:Kd}{K:Kx}{l:Loc}{i:Nat}(e:lat l i=some (.str k.s)):Rd V (tCmp .notin (lv i) (tupC [cst (.str "text"),cst (.str "choice"),cst (.str "check"),cst (.str "radio")]) K l) (!k.has):=fun Q H q=>by
 rw [← kd_has k] at q
 exact lvE K e ⟨⟨trivial,trivial,trivial,trivial,trivial⟩,q.now⟩
theorem rBtn {k:Kd}{K:Kx}{l:Loc}{i:Nat}(e:lat l i=some (.str k.s)):Rd V (tCmp .in (lv i) (tupC [cst (.str "check"),cst (.str "radio")]) K l) k.btn:=fun Q H q=>by
 rw [← kd_btn k] at q
 exact lvE K e ⟨⟨trivial,trivial,trivial⟩,q.now⟩
theorem rStr {K:Kx}{l:Loc}{i:Nat}{a w:Str}{c:Bool}(e:lat l i=some (.str a))(h:strB a w=c):Rd V (tCmp .eq (lv i) (cst (.str w)) K l) c:=fun Q H q=>by
 subst h;exact lvE K e q.now
theorem rOff {K:Kx}{l:Loc}{i:Nat}(e:lat l i=some v.mv):Rd V (tCmp .eq (lv i) (cst (.str "Off")) K l) v.off:=fun Q H q=>lvE K e (by cases v <;> exact q.now)
theorem rMem {K:Kx}{l:Loc}{i j:Nat}{ys:List MV}(e:lat l i=some v.mv)(e2:lat l j=some (.lst ys))(h:∀y∈ys,isStr y=true):Rd V (tCmp .in (lv i) (lv j) K l) (memB v.mv ys):=fun Q H q=>lvE K e (lvE K e2 ⟨str_ok h (val_cases v),q.now⟩)
theorem str_len {s:Str}(h:s.cps.toList.length≤100):s.length≤sizeMost:=by
 rw [show s.length=s.cps.toList.length from Array.length_toList.symm]
 exact Nat.le_trans h (Nat.le_of_ble_eq_true rfl)
noncomputable def islN:Cd MV:=(lcp false (icomp [none,none,none,some 0] (.one 1) (lim (iover (itm (lv 1) (cst (.int 4))))) yes (igen (.one 2) (lim (iover (itm (itm (mtd 375 311 (lv 3) [(lv 1)]) (cst (.str "AP"))) (cst (.str "N"))))) yes (ione (lv 2)))))
noncomputable def islD:Cs:=(sq (ifS (tCmp .in (lv 4) (tupC [(cst (.str "check")),(cst (.str "radio"))])) (sq (asS (.one 5) islN) (sq (ifS (tCmp .eq (lv 2) (cst (.str "Off"))) (sq (retS (ofT (tNot (tv (ofT (tAnd (tv (ofT (tCmp .eq (lv 4) (cst (.str "radio"))))) (tv (kall 744 [(lv 3),(cst (.int 15))])))))))) skp) skp) (sq (retS (ofT (tCmp .in (lv 2) (lv 5)))) skp))) skp) islC)
theorem rNames {l:Loc}(hr:RowOk T r):Rd (sees t tr T) (islN (KF (n+3) false E Q) (some (shv t tr) ::some r.row::l)) (.lst (stNames r.sts)):=fun Q H q=>by
 have wl:(r.wids.map rf).length≤10:=by rw [List.length_map];exact hr.wl
 refine ⟨4,rfl,by decide,_,rfl,Nat.le_trans wl (Nat.le_of_ble_eq_true rfl),Nat.le_trans wl (Nat.le_of_ble_eq_true rfl),(each_wst (g:=fun s=>s.map strV) (fun w d s hw hs=>?_) hr.sts).run q.1 fun H2 x2=>⟨Nat.le_trans (wsts_le (fun s hs=>map_le hs) hr.sts) (Nat.le_trans (Nat.mul_le_mul_left 3 hr.wl) (Nat.le_of_ble_eq_true rfl)),q.ex x2⟩⟩
 intro Q H q
 have lk:(keysV (stD s)).length≤3:=by rw [keys_st];exact map_le hs.mem
 have ld:(stD s).length≤3:=by unfold stD;rw [List.length_map];exact (sub_ok s hs.mem).1
 refine (sp_fetch_ref rfl hw).run q.1 fun H2 x2=>⟨_,hs.ap,_,rfl,rfl,Nat.le_trans ld (Nat.le_of_ble_eq_true rfl),Nat.le_trans lk (Nat.le_of_ble_eq_true rfl),?_⟩
 rw [keys_st]
 rw [← flat_one (g:=strV)] at q
 exact each_map (V:=sees t tr T) (u:=strV) (g:=fun k=>[strV k]) (fun k _ Q H q=>q.now) _ H2 (q.to x2)
theorem isl_btn {k:Kd}{rad:Bool}(hr:RowOk T r)(hv:v∈valAll)(hk:k.btn=true)(hs:strB k.s "radio"=rad)(q:Ev (sees t tr T) (Q (.bool (!false && buttonOk rad r.f r.sts v))) H):islD (KF (n+3) false E Q) (fun _=>Q .none) [some (shv t tr),some r.row,some v.mv,some (.dct r.whole),some (.str k.s),none,none,none,none,none,none,none,none,none,none,none,none] H:=by
 refine sT q.1 (hk▸rBtn (k:=k) rfl) fun H2 x2=>sA ((sees t tr T).mono x2 q.1) (rNames hr) fun H3 x3=>?_
 have q:=q.to (x2.tr x3)
 unfold buttonOk at q
 refine sI0 q.1 (rOff rfl) (fun ho H4 x4=>?_) fun ho H4 x4=>?_
 ·have q:=q.to x4
  rw [ho] at q
  exact sR q.1 (rOf (rNot (rTo (rAnd (rTo (rStr (a:=k.s) rfl hs)) fun _=>fun Q' H q=>sp_lflag (p:=15) hr.ff (by decide) _ H q)))) fun H5 x5=>q.ex x5
 ·have q:=q.to x4
  rw [ho] at q
  exact sR q.1 (rOf (rMem rfl rfl names_str)) fun H5 x5=>q.ex x5
theorem sp_islet (hr:RowOk T r)(hv:v∈valAll):Rd (sees t tr T) (cl (n+4) false E 781 [shv t tr,r.row,v.mv]) (.bool (letB r v)):=fun Q H q=>in781 (by
 have hk:=sp_lkind (V:=sees t tr T) (n:=n+1) (E:=E) hr.ft hr.ff
 unfold kindS at hk
 unfold letB at q
 refine sA q.1 (v:= .dct r.whole) (fun Q H q=>⟨3,rfl,by decide,_,rfl,q.now⟩) fun H1 x1=>sA ((sees t tr T).mono x1 q.1) hk fun H2 x2=>?_
 have q:=q.to (x1.tr x2)
 have f1:Rd (sees t tr T) (tv (kall 744 [lv 3,cst (.int 1)]) (KF (n+3) false E Q) [some (shv t tr),some r.row,some v.mv,some (.dct r.whole),some (.str (kindK r.w r.f).s),none,none,none,none,none,none,none,none,none,none,none,none]) (fbit r.f 1):=fun Q' H q=>sp_lflag (p:=1) hr.ff (by decide) _ H q
 have no:(fbit r.f 1 || (!(kindK r.w r.f).has || false)) =true→(!fbit r.f 1 && letK (kindK r.w r.f) r v) =false:=fun h=>by
  cases h1:fbit r.f 1 with
  | true=>rfl
  | false=>
   rw [h1] at h
   revert h
   cases kindK r.w r.f with
   | push=>exact fun _=>rfl
   | sig=>exact fun _=>rfl
   | no=>exact fun _=>rfl
   | _=>exact nofun
 refine sI0 q.1 (rOr f1 fun _=>rOr (rHas rfl) fun _=>rNo) (fun hb H3 x3=>?_) fun hb H3 x3=>?_
 ·rw [no hb] at q
  exact q.ex x3
 ·have q:=q.to x3
  have h1:fbit r.f 1=false:=by
   cases h:fbit r.f 1 with
   | false=>rfl
   | true=>rw [h] at hb;cases hb
  rw [h1] at q hb
  cases hK:kindK r.w r.f with
  | text=>
   rw [hK] at q
   refine sT q.1 (rStr rfl (by decide +kernel)) fun H4 x4=>?_
   have q:=q.to x4
   have hs:(dlook r.whole (.inr "MaxLen")).isSome=r.mx.isSome:=by rw [hr.mx];cases r.mx <;> rfl
   cases v with
   | s x=>
    have q:Ev _ (Q (.bool (decide ((x.length:Int)≤3) || !r.mx.isSome))) H4:=q
    rw [← hs] at q
    exact sR q.1 (rOf (rAnd (c:=true) (fun Q H q=>q.now) fun _=>rTo (rOr (rTo (c:=decide ((x.length:Int)≤3)) fun Q H q=>⟨str_len ((val_ok _ hv).1 x (.head _)).2,q.now⟩) fun _=>rTo (c:= !(dlook r.whole (.inr "MaxLen")).isSome) fun Q H q=>q.now))) fun H5 x5=>q.ex x5
   | l ts=>exact q.now
   | n=>exact q.now
  | choice=>
   rw [hK] at q
   refine sF0 q.1 (rStr rfl (by decide +kernel)) fun H4 x4=>sF0 ((sees t tr T).mono x4 q.1) (rBtn (k:= .choice) rfl) fun H5 x5=>isl_choice hr hv (q.to (x4.tr x5))
  | check=>
   rw [hK] at q
   exact sF0 q.1 (rStr rfl (by decide +kernel)) fun H4 x4=>isl_btn (rad:=false) hr hv rfl (by decide +kernel) (q.to x4)
  | radio=>
   rw [hK] at q
   exact sF0 q.1 (rStr rfl (by decide +kernel)) fun H4 x4=>isl_btn (rad:=true) hr hv rfl (by decide +kernel) (q.to x4)
  | _=>rw [hK] at hb;cases hb)
end
end Mine
end
section
namespace Mine
open PySem
theorem nT {b:Bool}(h:(!b) =true):b=false:=by cases b;rfl;cases h
theorem nF {b:Bool}(h:(!b) =false):b=true:=by cases b;cases h;rfl
noncomputable def Two (V:View)(m:(Hp→Prop)→Po MV→Hp→Prop)(b:Bool)(v:MV):Prop:=∀E Q H,V.p H→(b=true→Ev V (Q v) H)→(b=false→Ev V E H)→m E Q H
section
variable {V:View}{K:Kx}{l:Loc}{M:Loc→Hp→Prop}{H:Hp}{b c x y:Cs}{e a:Cd MV}{t u:Cd Bool}{i j p:Nat}{v w it:MV}{xs ys items:List MV}{B:Bool}
theorem rIf (h:Rd V (t K l) B)(h1:B=true→Rd V (e K l) v)(h2:B=false→Rd V (a K l) w):Rd V (tIf t e a K l) (bif B then v else w):=fun Q H q=>by
 cases B with
 | true=>exact h _ H ((h1 rfl).ev q)
 | false=>exact h _ H ((h2 rfl).ev q)
theorem sW (p:V.p H)(hd:K.hd=false){s:Str}(h:Rd V (e K l) (.str s))(q:∀H2,Ext H H2→K.E H2):sq (raiS e) b K M l H:=⟨hd,h.run p q⟩
theorem skpI (q:M l H):skp K M l H:=q
theorem rAdd {s u:Str}(h1:Rd V (e K l) (.str s))(h2:Rd V (a K l) (.str u))(hl:s.length+u.length≤sizeMost):Rd V (bin .add e a K l) (.str (s ++ u)):=fun Q H q=>h1 _ H (h2.ev ⟨q.1,fun H2 x _=>⟨hl,q.ex x⟩⟩)
theorem rCst:Rd V (cst v K l) v:=fun Q H q=>q.now
theorem rLv (e:lat l i=some v):Rd V (lv i K l) v:=fun Q H q=>lvE K e q.now
theorem rCmp {op:Cm}(h1:Rd V (e K l) v)(h2:Rd V (a K l) w)(h:∀H (Q:Bool→Prop),Q B→cmpM op v w H Q):Rd V (tCmp op e a K l) B:=fun Q H q=>h1 _ H (h2.ev ⟨q.1,fun H2 x _=>h H2 _ (q.ex x)⟩)
theorem rItm (e1:lat l i=some (.lst items))(e2:lat l j=some (natV p))(h:items[p]?=some it)(hp:p < 100000):Rd V (itm (lv i) (lv j) K l) it:=fun Q H q=>lvE K e1 (lvE K e2 ⟨p,rfl,hp,it,h,q.now⟩)
theorem rTke (e1:lat l i=some (.lst items))(e2:lat l j=some (natV p))(hl:items.length≤sizeMost):Rd V (tke (lv i) (lv j) K l) (.lst (items.take p)):=fun Q H q=>lvE K e1 (lvE K e2 ⟨p,rfl,hl,q.now⟩)
theorem rIn (h1:Rd V (e K l) v)(h2:Rd V (a K l) (.lst ys))(h:allOk v ys):Rd V (tCmp .in e a K l) (memB v ys):=rCmp h1 h2 fun _ _ q=>⟨h,q⟩
theorem rNotin (h1:Rd V (e K l) v)(h2:Rd V (a K l) (.lst ys))(h:allOk v ys):Rd V (tCmp .notin e a K l) (!memB v ys):=rCmp h1 h2 fun _ _ q=>⟨h,q⟩
theorem rIsN (h1:Rd V (e K l) v):Rd V (tCmp .is e (cst .none) K l) (isN v):=rCmp h1 rCst fun _ _ q=>⟨rfl,q⟩
theorem rIsStr (h1:Rd V (e K l) v)(hx:isStr v=true∨v= .int 7∨∃ts,v= .lst ts):Rd V (tv (isC .str e) K l) (isStr v):=fun Q H q=>h1 _ H ⟨q.1,fun H2 x _=>isStr_i hx (q.ex x)⟩
theorem sFor {it:Cd (List MV)}(I:List MV→Loc→Hp→Prop)(p:V.p H)(hx:Rd V (it K l) xs)(start:∀H2,Ext H H2→I xs l H2)(step:∀ {x xs l H},I (x::xs) l H→∀B N',(∀l H,I xs l H→N' l H)→b (K.loop B) N' (lput l i x) H)(fin:∀l H,I [] l H→c K M l H):sq (forS (.one i) it b) c K M l H:=
 hx.run p fun H2 x2=>forL_inv I (fun x xs l H i N' hN=>step i _ N' hN) fin (start H2 x2)
end
noncomputable def Val.txt:Val→Str
 | .s t=>t
 | _=>""
section
variable {V:View}{t tr n:Nat}{E:Hp→Prop}{T:Tab}{r:Rw}{v:Val}{H:Hp}{Q:Po MV}{M:Loc→Hp→Prop}{K:Kx}{l:Loc}
theorem lit_le {a:Str}(h:a.length≤500){b:Str}(hb:b.length≤400):a.length+b.length≤sizeMost:=Nat.le_trans (Nat.add_le_add h hb) (Nat.le_of_ble_eq_true rfl)
theorem rName {i:Nat}{s:Str}(e:lat l i=some r.leaf)(hs:s.length≤500)(hr:RowOk T r):Rd V (bin .add (cst (.str s)) (fd 468 0 (lv i)) K l) (.str (s ++ r.name)):=rAdd rCst (fun Q H q=>lvE K e q.now) (Nat.le_trans (Nat.add_le_add hs hr.nl) (Nat.le_of_ble_eq_true rfl))
theorem rName2 {i:Nat}{s u:Str}(e:lat l i=some r.leaf)(hs:s.length≤500)(hu:u.length≤500)(hr:RowOk T r):Rd V (bin .add (bin .add (cst (.str s)) (fd 468 0 (lv i))) (cst (.str u)) K l) (.str (s ++ r.name ++ u)):=rAdd (rName e hs hr) rCst (by
 rw [show (s ++ r.name).length=s.length+r.name.length from Array.size_append]
 exact Nat.le_trans (Nat.add_le_add (Nat.add_le_add hs hr.nl) hu) (Nat.le_of_ble_eq_true rfl))
theorem sp_textch (hr:RowOk T r)(hv:v∈valAll):Two V (fun E=>cl (n+5) false E 646 [shv t tr,r.leaf,v.mv]) (textOk r.mx v) (.dct [(.inr "V",sg (octB v.txt))]):=fun E Q H p qt qf=>in646 (by
 have hm:(dlook r.wholeP (.inr "MaxLen")).getD .none= (r.mx.map MV.int).getD .none:=by rw [hr.mxP]
 refine sA p (sp_whole hm) fun H1 x1=>?_
 cases v with
 | s x=>
  have hx:=(val_ok _ hv).1 x (.head _)
  have b:Rd V (tOr (tNot (tv (isC .str (lv 2)))) (tOr (tAnd (tCmp .isnt (lv 3) (cst .none)) (tAnd (tCmp .gt (blt false .len [lv 2]) (lv 3)) yes)) tfl) (KF (n+4) false E Q) [some (shv t tr),some r.leaf,some (.str x),some ((r.mx.map MV.int).getD .none),none,none,none,none,none,none,none]) (!textOk r.mx (.s x)):=by
   unfold textOk
   rcases hr.mx3 with h | h
   ·rw [h,show (!(decide ((x.length:Int)≤3) || !(Option.none:Option Int).isSome)) =false by cases decide ((x.length:Int)≤3) <;> rfl]
    exact fun Q H q=>⟨rfl,q.now⟩
   ·rw [h,show (!(decide ((x.length:Int)≤3) || !(some 3:Option Int).isSome)) = (false || (true && (decide ((3:Int) < x.length) && true) || false)) by
     by_cases w:(x.length:Int)≤3
     ·rw [decide_eq_true w,decide_eq_false (Int.not_lt.mpr w)];rfl
     ·rw [decide_eq_false w,decide_eq_true (Int.not_le.mp w)];rfl]
    exact rOr (c:=false) (fun Q H q=>q.now) fun _=>rOr (rAnd (c:=true) (fun Q H q=>⟨rfl,q.now⟩) fun _=>rAnd (fun Q H q=>⟨str_len hx.2,q.now⟩) fun _=>rYes) fun _=>rNo
  refine sI0 (V.mono x1 p) b (fun h H2 x2=>sW (V.mono (x1.tr x2) p) rfl (rName (T:=T) rfl (by decide +kernel) hr) fun H3 x3=>(qf (nT h)).ex ((x1.tr x2).tr x3)) fun h H2 x2=>(sp_octets hx).run (V:=V) (V.mono (x1.tr x2) p) fun H3 x3=>mk217 ⟨show 1≤sizeMost from Nat.le_of_ble_eq_true rfl,(qt (nF h)).ex ((x1.tr x2).tr x3)⟩
 | l ts=>exact sT (V.mono x1 p) (fun Q H q=>q.now) fun H2 x2=>sW (V.mono (x1.tr x2) p) rfl (rName (T:=T) rfl (by decide +kernel) hr) fun H3 x3=>(qf rfl).ex ((x1.tr x2).tr x3)
 | n=>exact sT (V.mono x1 p) (fun Q H q=>q.now) fun H2 x2=>sW (V.mono (x1.tr x2) p) rfl (rName (T:=T) rfl (by decide +kernel) hr) fun H3 x3=>(qf rfl).ex ((x1.tr x2).tr x3))
end
inductive DctV (V:View):MV→Dict→Prop
 | dct {es:Dict}:DctV V (.dct es) es
 | ref {es:Dict}{a:Nat}:(∀H,V.p H→H[a]?=some (cD es))→DctV V (.ref a) es
section
variable {V:View}{K:Kx}{l:Loc}{e a:Cd MV}{c:Cd Bool}{i j:Nat}{v X:MV}{xs ys:List MV}{es:Dict}
theorem rSort (h1:Rd V (e K l) X)(hX:DctV V X es)(h:∀ {Q:Po MV} {H},Q v H→sortM false (keysV es) Q H):Rd V (blt false .sorted [e] K l) v:=fun Q H q=>h1 _ H ⟨q.1,fun H2 x p=>by
 cases hX with
 | dct=>exact h (q.ex x)
 | ref w=>exact ⟨_,w H2 p,h (q.ex x)⟩⟩
theorem rSortL (h1:Rd V (e K l) (.lst xs))(h:∀ {Q:Po MV} {H},Q v H→sortM false xs Q H):Rd V (blt false .sorted [e] K l) v:=fun Q H q=>h1 _ H ⟨q.1,fun H2 x p=>h (q.ex x)⟩
theorem rItmE {k:Key}(h1:Rd V (e K l) X)(h2:Rd V (a K l) (keyV k))(hX:DctV V X es)(h:dlook es k=some v):Rd V (itm e a K l) v:=fun Q H q=>h1 _ H (h2.ev ⟨q.1,fun H2 x p=>by
 cases hX with
 | dct=>cases k <;> exact ⟨_,h,q.ex x⟩
 | ref w=>cases k <;> exact ⟨_,w H2 p,_,h,q.ex x⟩⟩)
theorem rItmD {k:Key}(e1:lat l i=some X)(e2:lat l j=some (keyV k))(hX:DctV V X es)(h:dlook es k=some v):Rd V (itm (lv i) (lv j) K l) v:=rItmE (rLv e1) (rLv e2) hX h
theorem rTup {k:Nat}(h:Rd V (e K l) (.tup xs))(hk:k < 100000)(hx:xs[k]?=some v):Rd V (itm e (cst (.int k)) K l) v:=fun Q H q=>h _ H ⟨q.1,fun H2 x p=>⟨k,rfl,hk,v,hx,q.ex x⟩⟩
theorem rOne (h:Rd V (e K l) v):Rd V (ione e K l) [v]:=fun Q H q=>h _ H q
theorem rNil:Rd V (evs [] K l) []:=fun Q H q=>q.now
theorem rCons {es:List (Cd MV)}{vs:List MV}(h:Rd V (e K l) v)(t:Rd V (evs es K l) vs):Rd V (evs (e::es) K l) (v::vs):=fun Q H q=>h _ H (t.ev (Q:=fun vs=>Q (v::vs)) q)
theorem rTupC {es:List (Cd MV)}{vs:List MV}(h:Rd V (evs es K l) vs):Rd V (tupC es K l) (.tup vs):=fun Q H q=>h _ H q
theorem rKall {es:List (Cd MV)}{vs:List MV}{f:Addr}(h:Rd V (evs es K l) vs)(hf:Rd V (K.cl K.hd K.E f vs) v):Rd V (kall f es K l) v:=fun Q H q=>h _ H (hf.ev q)
theorem rTurn {τ:Type}{inner:Cd (List τ)}{zs:List τ}(h:lat l i=none)(hc:Rd V (c K (lput l i v)) true)(hi:Rd V (inner K (lput l i v)) zs):Rd V (turn (.one i) c inner K l v) zs:=fun Q H q=>by
 show (match lat l i with | none=>c K (lput l i v) (fun b=>bif b then inner K (lput l i v) Q else Q []) H | some _=>False)
 rw [h]
 exact hc _ H (hi.ev q)
theorem rComp {τ α:Type}{hs:List (Option Nat)}{t:Tg}{it:Cd (List MV)}{inner:Cd (List τ)}{u:α→MV}{zs:List α}{g:α→List τ}(h1:Rd V (it K l) (zs.map u))(h:∀x∈zs,Rd V (turn t c inner K.quiet (hide hs l) (u x)) (g x)):Rd V (icomp hs t it c inner K l) (zs.flatMap g):=fun Q H q=>h1 _ H ((each_map h).ev q)
theorem rLcp {e:Cd (List MV)}(h:Rd V (e K l) ys)(hl:ys.length≤sizeMost):Rd V (lcp false e K l) (.lst ys):=fun Q H q=>h _ H ⟨q.1,fun H2 x p=>⟨hl,q.ex x⟩⟩
theorem rOver (h:Rd V (e K l) (.lst xs))(hl:xs.length≤sizeMost):Rd V (iover e K l) xs:=fun Q H q=>h _ H ⟨q.1,fun H2 x p=>⟨hl,q.ex x⟩⟩
theorem rTuple (h:Rd V (e K l) (.lst xs))(hl:xs.length≤sizeMost):Rd V (blt false .tuple [e] K l) (.tup xs):=fun Q H q=>h _ H ⟨q.1,fun H2 x p=>⟨hl,q.ex x⟩⟩
theorem rCat (h1:Rd V (e K l) (.tup xs))(h2:Rd V (a K l) (.tup ys))(ne:xs≠ [])(hl:xs.length+ys.length≤sizeMost):Rd V (bin .add e a K l) (.tup (xs ++ ys)):=fun Q H q=>h1 _ H (h2.ev ⟨q.1,fun H2 x p=>⟨ne,hl,q.ex x⟩⟩)
end
end Mine
end
section
namespace Mine
open PySem
noncomputable def onNames (sts:List (List String)):List MV:=sts.flatMap fun s=>(onS s).map strV
theorem on_str {sts:List (List String)}:∀y∈onNames sts,isStr y=true:=fun y hy=>by
 obtain ⟨s,_,h⟩:=List.mem_flatMap.mp hy
 obtain ⟨k,_,rfl⟩:=List.mem_map.mp h
 rfl
theorem mem_app {x:MV}{l m:List MV}:memB x (l ++ m) = (memB x l || memB x m):=List.any_append
theorem mem_on {v:Val}{sts:List (List String)}(h:v.off=false):memB v.mv (onNames sts) =memB v.mv (stNames sts):=by
 have one:∀s:List String,memB v.mv ((onS s).map strV) =memB v.mv (s.map strV):=fun s=>by
  induction s with
  | nil=>rfl
  | cons k s ih=>
   unfold onS at ih ⊢
   rw [List.filter_cons]
   by_cases hk:(k != "Off") =true
   ·rw [if_pos hk]
    exact congrArg (eqB (strV k) v.mv || ·) ih
   ·rw [if_neg hk,ih]
    have e:k="Off":=by
     by_cases w:k="Off"
     ·exact w
     ·exact absurd (bne_iff_ne.mpr w) hk
    subst e
    have f:eqB (strV "Off") v.mv=false:=by
     cases v with
     | s t=>exact decide_eq_false fun w=>(of_decide_eq_false h) w.symm
     | l ts=>rfl
     | n=>rfl
    show _= (eqB (strV "Off") v.mv || _)
    rw [f];rfl
 induction sts with
 | nil=>rfl
 | cons s sts ih=>
  show memB v.mv ((onS s).map strV ++ onNames sts) =memB v.mv (s.map strV ++ stNames sts)
  rw [mem_app,mem_app,one,ih]
noncomputable def btnN:Cd MV:=(lcp false (icomp [none,none,none,none,some 0] (.one 1) (lim (iover (fd 468 3 (lv 1)))) yes (igen (.one 2) (lim (iover (kall 632 [(lv 4),(lv 1)]))) yes (ione (lv 2)))))
section
variable {V:View}{t tr n:Nat}{E:Hp→Prop}{T:Tab}{r:Rw}{v:Val}{H:Hp}{Q:Po MV}{M:Loc→Hp→Prop}{K:Kx}{l:Loc}
theorem rOns (hr:RowOk T r):Rd (sees t tr T) (btnN (KF (n+3) false E Q) (some (shv t tr) ::some r.leaf::l)) (.lst (onNames r.sts)):=fun Q H q=>by
 have wl:(r.wids.map rf).length≤10:=by rw [List.length_map];exact hr.wl
 have le:∀s∈subs,((onS s).map strV).length≤3:=fun s hs=>by
  rw [List.length_map];exact Nat.le_trans (List.length_filter_le ..) (sub_ok s hs).1
 refine ⟨Nat.le_trans wl (Nat.le_of_ble_eq_true rfl),Nat.le_trans wl (Nat.le_of_ble_eq_true rfl),(each_wst (g:=fun s=>(onS s).map strV) (fun w d s hw hs=>?_) hr.sts).run q.1 fun H2 x2=>⟨Nat.le_trans (wsts_le le hr.sts) (Nat.le_trans (Nat.mul_le_mul_left 3 hr.wl) (Nat.le_of_ble_eq_true rfl)),q.ex x2⟩⟩
 intro Q H q
 refine (sp_onstates hw hs).run q.1 fun H2 x2=>⟨Nat.le_trans (le s hs.mem) (Nat.le_of_ble_eq_true rfl),Nat.le_trans (le s hs.mem) (Nat.le_of_ble_eq_true rfl),?_⟩
 rw [← flat_one (g:=strV)] at q
 exact each_map (V:=sees t tr T) (u:=strV) (g:=fun k=>[strV k]) (fun k _ Q H q=>q.now) _ H2 (q.to x2)
theorem rKind {i:Nat}{w:Str}{c:Bool}(e:lat l i=some r.leaf)(h:strB (kindK r.w r.f).s w=c):Rd V (tCmp .eq (fd 468 5 (lv i)) (cst (.str w)) K l) c:=rCmp (v:= .str (kindS r.w r.f)) (fun Q H q=>lvE K e q.now) rCst fun _ _ q=>by subst h;exact q
theorem sp_buttonch {rad:Bool}(hr:RowOk T r)(hk:strB (kindK r.w r.f).s "radio"=rad):Two (sees t tr T) (fun E=>cl (n+6) false E 656 [shv t tr,r.leaf,v.mv]) (buttonOk rad r.f r.sts v) (.dct [(.inr "V", .inst 195 [v.mv])]):=fun E Q H p qt qf=>in656 (by
 have pm:∀ {H2},Ext H H2→(sees t tr T).p H2:=fun x=>(sees t tr T).mono x p
 have ret:∀ {b M H2}{m:Option MV},buttonOk rad r.f r.sts v=true→Ext H H2→sq (retS (dctC false [((cst (.str "V")),(kall 195 [(lv 2)]))])) b (KF (n+5) false E Q) M [some (shv t tr),some r.leaf,some v.mv,m,none,none,none,none] H2:=fun h x=>mk195 ⟨show 1≤sizeMost from Nat.le_of_ble_eq_true rfl,(qt h).ex x⟩
 refine sA p (rOns hr) fun H1 x1=>sI (pm x1) (rOff rfl) (fun ho H2 x2=>?_) fun ho H2 x2=>?_
 ·have e:buttonOk rad r.f r.sts v= !(rad && fbit r.f 15):=by unfold buttonOk;rw [ho];rfl
  refine sI0 (pm (x1.tr x2)) (rAnd (rKind rfl hk) fun _=>rAnd (c:=fbit r.f 15) (fun Q' H q=>sp_has (w:="no toggle to off") hr.ffP (by decide) _ H q) fun _=>rYes) (fun h H3 x3=>?_) fun h H3 x3=>?_
  ·rw [Bool.and_true] at h
   exact sW (pm ((x1.tr x2).tr x3)) rfl (rName2 (T:=T) rfl (by decide +kernel) (by decide +kernel) hr) fun H4 x4=>(qf (by rw [e,h];rfl)).ex (((x1.tr x2).tr x3).tr x4)
  ·rw [Bool.and_true] at h
   exact skpI (ret (by rw [e,h];rfl) ((x1.tr x2).tr x3))
 ·have e:buttonOk rad r.f r.sts v=memB v.mv (onNames r.sts):=by unfold buttonOk;rw [ho,mem_on ho];rfl
  refine sI0 (pm (x1.tr x2)) (rNotin (v:=v.mv) (fun Q H q=>q.now) (fun Q H q=>q.now) (str_ok on_str (val_cases v))) (fun h H3 x3=>?_) fun h H3 x3=>?_
  ·exact sW (pm ((x1.tr x2).tr x3)) rfl (rName (T:=T) rfl (by decide +kernel) hr) fun H4 x4=>(qf (e.trans (nT h))).ex (((x1.tr x2).tr x3).tr x4)
  ·exact skpI (ret (e.trans (nF h)) ((x1.tr x2).tr x3)))
end
end Mine
end
section
namespace Mine
open PySem
noncomputable def idxOf:List Str→Str→Nat
 | [],_=>0
 | s::l,t=>bif strB s t then 0 else idxOf l t+1
theorem idx_at {l:List Str}{t:Str}(h:memB (.str t) (l.map .str) =true):IdxAt l t (idxOf l t):=by
 induction l with
 | nil=>cases h
 | cons s l ih=>
  show IdxAt (s::l) t (bif strB s t then 0 else idxOf l t+1)
  cases hs:strB s t with
  | true=>exact ⟨congrArg some (of_decide_eq_true hs),fun i y hi=>absurd hi (Nat.not_lt_zero i)⟩
  | false=>
   have h:(strB s t || memB (.str t) (l.map .str)) =true:=h
   rw [hs] at h
   obtain ⟨h1,h2⟩:=ih h
   refine ⟨h1,fun i y hi hy=>?_⟩
   cases i with
   | zero=>exact fun w=>of_decide_eq_false hs ((Option.some.inj hy).trans w)
   | succ i=>exact h2 i y (Nat.lt_of_succ_lt_succ hi) hy
noncomputable def exN (op:Nat):List Str:=(opts.take op).map fun o=>Str.ofString o.s
theorem exs_map {op:Nat}:exs op= (exN op).map .str:=by unfold exs exN;rw [List.map_map];rfl
theorem okList_in {ex:List MV}{xs:List MV}:∀ {prev:List MV},okList ex false prev xs=true→∀x∈xs,memB x ex=true:=by
 induction xs with
 | nil=>exact fun _ x hx=>nomatch hx
 | cons y xs ih=>
  intro prev h x hx
  have h:(okItem ex false prev y && okList ex false (prev ++ [y]) xs) =true:=h
  obtain ⟨h1,h2⟩:=Bool.and_eq_true_iff.mp h
  rcases List.mem_cons.mp hx with rfl | hx
  ·have h3:=(Bool.and_eq_true_iff.mp (Bool.and_eq_true_iff.mp h1).2).2
   rwa [Bool.or_false] at h3
  ·exact ih h2 x hx
theorem ok_texts {ex:List MV}{free:Bool}{v:Val}(h:okList ex free [] v.items=true):v.items=v.texts.map .str:=by
 cases v with
 | s t=>rfl
 | l ts=>rfl
 | n=>cases h
noncomputable def sgS (t:Str):MV:=sg (octB t)
noncomputable def idxs (op:Nat)(ts:List Str):List Int:=ts.map fun t=>(idxOf (exN op) t:Int)
noncomputable def placesV (op:Nat)(ts:List Str):MV:= .lst ((sortBy intLe (idxs op ts)).map .int)
noncomputable def valV (v:Val):MV:=bif v.isL then .lst (v.texts.map sgS) else sgS v.txt
noncomputable def choiceD (op:Nat)(combo:Bool)(v:Val):Dict:=[(.inr "V",valV v),(.inr "I",bif combo then .none else placesV op v.texts)]
noncomputable def chB:Cs:=(sq (asS (.one 7) (ofT (tAnd (tv (lv 3)) (tAnd (tv (kall 528 [(lv 0),(lv 1),(cst (.str "edit"))])) (tv (isC .str (itm (lv 4) (lv 6)))))))) (sq (ifS (tOr (tAnd (tCmp .notin (itm (lv 4) (lv 6)) (lv 5)) (tAnd (tNot (tv (lv 7))) yes)) (tOr (tCmp .is (itm (lv 4) (lv 6)) (cst .none)) (tOr (tCmp .in (itm (lv 4) (lv 6)) (tke (lv 4) (lv 6))) tfl))) (sq (raiS (bin .add (cst (.str "no choice for the field ")) (fd 468 0 (lv 1)))) skp) skp) skp))
noncomputable def chE:Cs:=(sq (asS (.one 8) (lcp false (icomp [none,none,none,none] (.one 1) (iover (lv 4)) yes (ione (kall 217 [(kall 424 [(lv 1)])]))))) (sq (asS (.one 9) (tIf (tv (lv 3)) (cst .none) (blt false .sorted [(lcp false (icomp [none,none,some 5] (.one 1) (iover (lv 4)) yes (ione (mth false .list .index (lv 2) [(lv 1)]))))]))) (sq (retS (dctC false [((cst (.str "V")),(tIf (tv (isC .lst (lv 2))) (lv 8) (itm (lv 8) (cst (.int 0))))),((cst (.str "I")),(lv 9))])) skp)))
noncomputable def chX:Cd MV:=(lcp false (icomp [none,none] (.one 1) (iover (kall 627 [(lv 0),(lv 1)])) yes (ione (itm (lv 1) (cst (.int 0))))))
section
variable {V:View}{t tr n:Nat}{E:Hp→Prop}{T:Tab}{r:Rw}{v:Val}{H:Hp}{Q:Po MV}{M:Loc→Hp→Prop}{K:Kx}{l:Loc}
theorem rExs (hr:RowOk T r):Rd V (chX (KF (n+5) false E Q) (some (shv t tr) ::some r.leaf::l)) (.lst (exs r.op)):=fun Q H q=>by
 have lm:∀ {f:Opt→MV},((opts.take r.op).map f).length≤sizeMost:=fun {f}=>by rw [List.length_map];exact Nat.le_trans opt_le (Nat.le_of_ble_eq_true rfl)
 refine (sp_options (V:=V) hr.opP).run q.1 fun H2 x2=>⟨lm,(each_map (V:=vAll) (u:=Opt.p) (g:=fun o=>[o.e]) fun o _ Q H q=>⟨0,rfl,by decide,_,rfl,q.now⟩).run trivial fun H3 x3=>?_⟩
 rw [flat_one]
 exact ⟨lm,q.ex (x2.tr x3)⟩
theorem dict2 {a b:MV}:dputs [] [(.inr "V",a),(.inr "I",b)] = ([(.inr "V",a),(.inr "I",b)]:Dict):=by
 show dput [(.inr "V",a)] (.inr "I") b=_
 exact dput_new (look_f (e:=(.inr "V",a)) (show ¬ (Sum.inr (Str.ofString "V"):Key) = .inr "I" by decide))
theorem rPlaces {i j op:Nat}{ts:List Str}(hh:K.hd=false)(e1:lat l i=some (.lst (ts.map .str)))(e2:lat l j=some (.lst (exs op)))(hm:∀x∈ts.map .str,memB x (exs op) =true)(hl:(ts.map MV.str).length≤10):Rd V (blt false .sorted [(lcp false (icomp [none,none,some j] (.one 1) (iover (lv i)) yes (ione (mth false .list .index (lv 2) [(lv 1)]))))] K l) (placesV op ts):=by
 have ll:∀ {f:Str→MV},(ts.map f).length≤10:=fun {f}=>by rw [List.length_map] at hl ⊢;exact hl
 have ls:∀ {f:Str→MV},(ts.map f).length≤sizeMost:=Nat.le_trans ll (Nat.le_of_ble_eq_true rfl)
 have hd:hide [none,none,some j] l= [none,none,some (.lst (exs op))]:=by
  show [none,none,lat l j] =_
  rw [e2]
 have li:(idxs op ts).length≤10:=by unfold idxs;rw [List.length_map] at hl ⊢;exact hl
 refine rSortL (xs:=(ts.map fun t=> .int (idxOf (exN op) t))) (rLcp (flat_one (g:=fun t=>MV.int (idxOf (exN op) t))▸rComp (u:= .str) (rOver (rLv e1) ls) fun t ht=>?_) ls) fun q=> .inl ⟨idxs op ts,by unfold idxs;rw [List.map_map];rfl,Nat.lt_of_le_of_lt li (by decide),by rw [List.length_map,(sortBy_perm _).length_eq];exact Nat.le_trans li (Nat.le_of_ble_eq_true rfl),q⟩
 have hm:=hm (.str t) (List.mem_map.mpr ⟨t,ht,rfl⟩)
 rw [exs_map] at hm
 rw [hd]
 exact rTurn rfl rYes (rOne fun Q H q=>⟨hh,_,exs_map,by unfold exN;rw [List.length_map];exact Nat.le_trans opt_le (Nat.le_of_ble_eq_true rfl),_,idx_at hm,q.now⟩)
theorem ch_end {a:Option MV}{combo:Bool}{op:Nat}{B:Loc→Hp→Prop}(hv:v∈valAll)(hi:v.items=v.texts.map .str)(hin:combo=false→∀x∈v.items,memB x (exs op) =true)(hn:v.isL=false→v.isS=true)
  (q:Ev V (Q (.dct (choiceD op combo v))) H){u w:Option MV}:chE (KF (n+5) false E Q) B [some (shv t tr),a,some v.mv,some (.bool combo),some (.lst v.items),some (.lst (exs op)),u,w,none,none,none,none,none,none,none,none,none,none,none] H:=by
 obtain ⟨hp,hl⟩:=val_ok v hv
 have ll:∀ {f:Str→MV},(v.texts.map f).length≤10:=fun {f}=>by rw [List.length_map];rw [hi,List.length_map] at hl;exact hl
 have ls:∀ {f:Str→MV},(v.texts.map f).length≤sizeMost:=Nat.le_trans ll (Nat.le_of_ble_eq_true rfl)
 rw [hi]
 refine sA (v:= .lst (v.texts.map sgS)) q.1 (fun Q H q=>⟨ls,(each_map (V:=V) (g:=fun t=>[sgS t]) fun t ht Q H q=>(sp_octets (hp t ht)).run q.1 fun H2 x2=>mk217 (q.ex x2)).run q.1 fun H2 x2=>⟨by rw [flat_one];exact ls,by rw [flat_one];exact q.ex x2⟩⟩) fun H1 x1=>?_
 refine sA (v:=bif combo then .none else placesV op v.texts) (V.mono x1 q.1) (rIf (rTv rfl) (fun _=>rCst) fun h=>rPlaces rfl rfl rfl (hi▸hin h) (hi▸hl)) fun H2 x2=>sR (v:= .dct (choiceD op combo v)) (V.mono (x1.tr x2) q.1) (fun Q H q=>?_) fun H3 x3=>q.ex ((x1.tr x2).tr x3)
 have fin:∀a,a=valV v→mkDict false (dputs [] [(.inr "V",a),(.inr "I",bif combo then .none else placesV op v.texts)]) Q H:=fun a e=>by
  subst e
  rw [dict2]
  exact ⟨show 2≤sizeMost from Nat.le_of_ble_eq_true rfl,q.now⟩
 cases v with
 | l ts=>exact fin _ rfl
 | s x=>exact ⟨0,rfl,by decide,_,rfl,fin _ rfl⟩
 | n=>exact absurd (hn rfl) (by decide)
inductive LpI (items ex:List MV)(free:Bool)(H0:Hp)(L:Option MV→Option MV→Loc)(xs:List MV)(l:Loc)(H:Hp):Prop
 | mk (prev rest:List MV)(u w:Option MV):Rng items xs prev rest→l=L u w→Ext H0 H→okList ex free [] items=okList ex free prev rest→LpI items ex free H0 L xs l H
theorem okB:∀m p a b:Bool,((!m && (!(a && (b && true)) && true)) || (false || (p || false))) = !(true && (!p && (m || (a && b)))):=by decide
theorem okB7:∀p a b:Bool,((!false && (!(a && (b && false)) && true)) || (false || (p || false))) =true:=by decide
theorem ch_loop {free:Bool}{items:List MV}{c:Option MV}(hr:RowOk T r)(hl:items.length≤10)(hi:∀y∈items,isStr y=true∨y= .int 7)(hs:∀y∈items,isStr y=true∨items.length=1)(p:V.p H)(hf:(fbit r.f 18 && fbit r.f 19) =free)
  (qt:okList (exs r.op) free [] items=true→∀H2 u w,Ext H H2→chE (KF (n+5) false E Q) M [some (shv t tr),some r.leaf,c,some (.bool (fbit r.f 18)),some (.lst items),some (.lst (exs r.op)),u,w,none,none,none,none,none,none,none,none,none,none,none] H2) (qf:okList (exs r.op) free [] items=false→Ev V E H):sq (forS (.one 6) (iran (blt false .len [(lv 4)])) chB) chE (KF (n+5) false E Q) M [some (shv t tr),some r.leaf,c,some (.bool (fbit r.f 18)),some (.lst items),some (.lst (exs r.op)),none,none,none,none,none,none,none,none,none,none,none,none,none] H:=by
 have ll:items.length≤sizeMost:=Nat.le_trans hl (Nat.le_of_ble_eq_true rfl)
 have ri:=range_le hl
 refine sFor (V:=V) (xs:=(List.range items.length).map natV) (LpI items (exs r.op) free H fun u w=>[some (shv t tr),some r.leaf,c,some (.bool (fbit r.f 18)),some (.lst items),some (.lst (exs r.op)),u,w,none,none,none,none,none,none,none,none,none,none,none]) p
  (fun Q H q=>⟨ll,rfl,ri.1,ri.2,q.now⟩) (fun H2 x2=> .mk [] items none none .start rfl x2 rfl) (fun {x xs l H'} i B N' hN=>?_) fun l H' i=>?_
 ·obtain ⟨prev,rest,u,w,a,rfl,ex,eq⟩:=i
  obtain ⟨it,rr,rfl,rfl,h1,h2,a⟩:=a.next
  have hm:it∈items:=List.mem_of_getElem? h1
  have it_ok:=(hi it hm).imp (fun h=>h) fun h=>Or.inl (b:=∃ts,it=MV.lst ts) h
  have pl:prev.length < 100000:=Nat.lt_of_le_of_lt (Nat.le_trans (by rw [← h2,List.length_take];exact Nat.min_le_right ..) hl) (by decide)
  have hp:allOk it prev:=str_ok (fun y hy=>by
   have hy2:y∈items:=by rw [← h2] at hy;exact List.mem_of_mem_take hy
   rcases hs y hy2 with h | h
   ·exact h
   ·have lt:prev.length < items.length:=(List.getElem?_eq_some_iff.mp h1).1
    rw [h] at lt
    cases prev with
    | nil=>cases hy
    | cons z zs=>exact absurd lt (Nat.not_lt.mpr (Nat.succ_le_succ (Nat.zero_le _)))) it_ok
  have sub:(!memB it (exs r.op) && (!(fbit r.f 18 && (fbit r.f 19 && isStr it)) && true) || (isN it || (memB it prev || false))) = !okItem (exs r.op) free prev it:=by
   subst hf
   rcases hi it hm with h | rfl
   ·obtain ⟨s,rfl⟩:=str_of h
    unfold okItem
    exact okB _ _ _ _
   ·have:memB (.int 7) (exs r.op) =false:=by
     rw [exs_map]
     generalize exN r.op=l
     induction l with
     | nil=>rfl
     | cons s l ih=>exact ih
    unfold okItem
    rw [this]
    exact okB7 _ _ _
  have tk:∀ {K l i j},lat l i=some (.lst items)→lat l j=some (natV prev.length)→Rd V (tke (lv i) (lv j) K l) (.lst prev):=fun {K} {l i j} e1 e2=>by
   have:=rTke (V:=V) (K:=K) e1 e2 ll
   rw [h2] at this
   exact this
  have pm:∀ {H2},Ext H' H2→V.p H2:=fun x=>V.mono (ex.tr x) p
  refine sA (pm .rfl') (rOf (rAnd (rTv rfl) fun _=>rAnd (c:=fbit r.f 19) (fun Q' H q=>sp_has (w:="edit") hr.ffP (by decide) _ H q) fun _=>rIsStr (rItm rfl rfl h1 pl) it_ok)) fun H2 x2=>sI0 (pm x2) (rOr (rAnd (rNotin (rItm rfl rfl h1 pl) (rLv rfl) (str_ok exs_str it_ok)) fun _=>rAnd (rNot (rTv rfl)) fun _=>rYes) fun _=>rOr (rIsN (rItm rfl rfl h1 pl)) fun _=>rOr (rIn (ys:=prev) (rItm rfl rfl h1 pl) (tk rfl rfl) hp) fun _=>rNo) (fun hc H3 x3=>?_) fun hc H3 x3=>?_
  ·rw [sub] at hc
   exact sW (pm (x2.tr x3)) rfl (rName (T:=T) rfl (by decide +kernel) hr) fun H4 x4=>(qf (by rw [eq];show (okItem _ _ _ _ && _) =_;rw [nT hc];rfl)).ex (((ex.tr x2).tr x3).tr x4)
  ·rw [sub] at hc
   exact hN _ _ (.mk (prev ++ [it]) rr _ _ a rfl ((ex.tr x2).tr x3) (by rw [eq];show (okItem _ _ _ _ && _) =_;rw [nF hc];rfl))
 ·obtain ⟨prev,rest,u,w,a,rfl,ex,eq⟩:=i
  rw [a.done] at eq
  exact qt eq H' _ _ ex
theorem sp_choicech (hr:RowOk T r)(hv:v∈valAll):Two V (fun E=>cl (n+6) false E 651 [shv t tr,r.leaf,v.mv]) (choiceOk r.f (exs r.op) v) (.dct (choiceD r.op (fbit r.f 18) v)):=fun E Q H p qt qf=>in651 (by
 obtain ⟨hp,hl⟩:=val_ok v hv
 unfold choiceOk at qt qf
 have io:(∀y∈v.items,isStr y=true∨y= .int 7)∧∀y∈v.items,isStr y=true∨v.items.length=1:=by
  rcases items_ok (v:=v) with h | rfl
  ·exact ⟨fun y hy=> .inl (h y hy),fun y hy=> .inl (h y hy)⟩
  ·exact ⟨fun y hy=> .inr (List.mem_singleton.mp hy),fun _ _=> .inr rfl⟩
 have pm:∀ {H2},Ext H H2→V.p H2:=fun x=>V.mono x p
 refine sA p (v:= .bool (fbit r.f 18)) (sp_has (w:="combo") hr.ffP (by decide)) fun H1 x1=>sA (pm x1) (rVals rfl) fun H2 x2=>sA (pm (x1.tr x2)) (rExs hr) fun H3 x3=>?_
 have x:=(x1.tr x2).tr x3
 refine sI0 (pm x) (rAnd (rIs rfl) fun _=>rAnd (rOr (rTv rfl) fun _=>rOr (rNot (c:=fbit r.f 22) fun Q' H q=>sp_has (w:="multi select") hr.ffP (by decide) _ H q) fun _=>rNo) fun _=>rYes) (fun hb H4 x4=>?_) fun hb H4 x4=>?_
 ·rw [Bool.or_false,Bool.and_true] at hb
  rw [hb] at qf
  exact sW (pm (x.tr x4)) rfl (rName (T:=T) rfl (by decide +kernel) hr) fun H5 x5=>(qf rfl).ex ((x.tr x4).tr x5)
 ·rw [Bool.or_false,Bool.and_true] at hb
  rw [hb] at qf qt
  have qt:okList (exs r.op) (fbit r.f 18 && fbit r.f 19) [] v.items=true→Ev V (Q (.dct (choiceD r.op (fbit r.f 18) v))) H:=qt
  exact ch_loop hr hl io.1 io.2 (pm (x.tr x4)) rfl (fun ok H5 u w x5=>ch_end hv (ok_texts ok) (fun h=>by rw [h] at ok;exact okList_in ok) (fun h=>by
   cases v with
   | s t=>rfl
   | l ts=>cases h
   | n=>cases ok) ((qt ok).to ((x.tr x4).tr x5))) fun no=>(qf no).to (x.tr x4))
end
end Mine
end
section
namespace Mine
open PySem
noncomputable def chgK (k:Kd)(r:Rw)(v:Val):Dict:=match k with
 | .text=>[(.inr "V",sg (octB v.txt))]
 | .choice=>choiceD r.op (fbit r.f 18) v
 | _=>[(.inr "V",nmv v.txt)]
noncomputable def chgD (r:Rw)(v:Val):Dict:=chgK (kindK r.w r.f) r v
noncomputable def chT:Cs:=(sq (ifS (tCmp .eq (fd 468 5 (lv 1)) (cst (.str "text"))) (sq (retS (kall 646 [(lv 0),(lv 1),(lv 2)])) skp) skp) (sq (ifS (tCmp .eq (fd 468 5 (lv 1)) (cst (.str "choice"))) (sq (retS (kall 651 [(lv 0),(lv 1),(lv 2)])) skp) skp) (sq (ifS (tCmp .in (fd 468 5 (lv 1)) (tupC [(cst (.str "check")),(cst (.str "radio"))])) (sq (retS (kall 656 [(lv 0),(lv 1),(lv 2)])) skp) skp) (sq (raiS (bin .add (bin .add (cst (.str "the field ")) (fd 468 0 (lv 1))) (cst (.str " has no value to put")))) skp))))
section
variable {t tr n:Nat}{T:Tab}{r:Rw}{v:Val}
theorem rBtnL {V:View}{K:Kx}{l:Loc}{i:Nat}(e:lat l i=some r.leaf):Rd V (tCmp .in (fd 468 5 (lv i)) (tupC [cst (.str "check"),cst (.str "radio")]) K l) (kindK r.w r.f).btn:=rCmp (v:= .str (kindK r.w r.f).s) (w:= .tup [.str "check", .str "radio"]) (fun Q H q=>lvE K e q.now) (fun Q H q=>q.now) fun _ Q q=>⟨⟨trivial,trivial,trivial⟩,show Q (List.any _ _) by rw [kd_btn];exact q⟩
theorem mem_s {x:MV}{l:List MV}(h:∀y∈l,isStr y=true)(m:memB x l=true):isStr x=true:=by
 obtain ⟨y,hy,e⟩:=List.any_eq_true.mp m
 obtain ⟨s,rfl⟩:=str_of (h y hy)
 cases x with
 | str u=>rfl
 | _=>cases e
theorem btn_s {rad:Bool}{f:Int}{sts:List (List String)}(h:buttonOk rad f sts v=true):v.mv= .str v.txt:=by
 cases v with
 | s t=>rfl
 | l ts=>exact absurd (mem_s names_str h) Bool.false_ne_true
 | n=>exact absurd (mem_s names_str h) Bool.false_ne_true
theorem sp_change (hr:RowOk T r)(hv:v∈valAll):Two (sees t tr T) (fun E=>cl (n+7) false E 663 [shv t tr,r.leaf,v.mv]) (letB r v) (.dct (chgD r v)):=fun E Q H p qt qf=>in663 (by
 have pm:∀ {H2},Ext H H2→(sees t tr T).p H2:=fun x=>(sees t tr T).mono x p
 refine sI0 p (c:=fbit r.f 1) (fun Q' H q=>sp_has (w:="read only") hr.ffP (by decide) _ H q) (fun h H1 x1=>?_) fun h H1 x1=>?_
 ·exact sW (pm x1) rfl (rName2 (T:=T) rfl (by decide +kernel) (by decide +kernel) hr) fun H2 x2=>(qf (by unfold letB;rw [h];rfl)).ex (x1.tr x2)
 ·unfold letB chgD at qt
  unfold letB at qf
  rw [h] at qt qf
  have pz:∀ {H2 b M},letK (kindK r.w r.f) r v=false→Ext H H2→sq (raiS (bin .add (bin .add (cst (.str "the field ")) (fd 468 0 (lv 1))) (cst (.str " has no value to put")))) b (KF (n+6) false E Q) M [some (shv t tr),some r.leaf,some v.mv,none,none,none,none,none] H2:=fun h x=>sW (pm x) rfl (rName2 (T:=T) rfl (by decide +kernel) (by decide +kernel) hr) fun H2 x2=>(qf (by rw [h];rfl)).ex (x.tr x2)
  have non:∀ {k:Kd},kindK r.w r.f=k→k.btn=false→strB k.s "text"=false→strB k.s "choice"=false→letK k r v=false→chT (KF (n+6) false E Q) (fun _=>Q .none) [some (shv t tr),some r.leaf,some v.mv,none,none,none,none,none] H1:=fun {k} hK hb h1 h2 hl=>by
   subst hK
   refine sF0 (pm x1) (rKind rfl h1) fun H2 x2=>sF0 (pm (x1.tr x2)) (rKind rfl h2) fun H3 x3=>sF0 (pm ((x1.tr x2).tr x3)) (hb▸rBtnL rfl) fun H4 x4=>pz hl (((x1.tr x2).tr x3).tr x4)
  have btn:∀ {k:Kd}{rad:Bool},kindK r.w r.f=k→k.btn=true→strB k.s "text"=false→strB k.s "choice"=false→strB k.s "radio"=rad→((!false && buttonOk rad r.f r.sts v) =true→Ev (sees t tr T) (Q (.dct [(.inr "V",nmv v.txt)])) H)→((!false && buttonOk rad r.f r.sts v) =false→Ev (sees t tr T) E H)→chT (KF (n+6) false E Q) (fun _=>Q .none) [some (shv t tr),some r.leaf,some v.mv,none,none,none,none,none] H1:=fun {k rad} hK hb h1 h2 h3 qt qf=>by
   subst hK
   refine sF0 (pm x1) (rKind rfl h1) fun H2 x2=>sF0 (pm (x1.tr x2)) (rKind rfl h2) fun H3 x3=>sT (pm ((x1.tr x2).tr x3)) (hb▸rBtnL rfl) fun H4 x4=>sp_buttonch hr h3 _ _ _ (pm (((x1.tr x2).tr x3).tr x4)) (fun h=>by rw [btn_s h];exact (qt h).to (((x1.tr x2).tr x3).tr x4)) fun h=>(qf h).to (((x1.tr x2).tr x3).tr x4)
  cases hK:kindK r.w r.f with
  | text=>
   rw [hK] at qt qf
   exact sT (pm x1) (rKind rfl (by rw [hK];decide +kernel)) fun H2 x2=>sp_textch hr hv _ _ _ (pm (x1.tr x2)) (fun h=>(qt h).to (x1.tr x2)) fun h=>(qf h).to (x1.tr x2)
  | choice=>
   rw [hK] at qt qf
   exact sF0 (pm x1) (rKind rfl (by rw [hK];decide +kernel)) fun H2 x2=>sT (pm (x1.tr x2)) (rKind rfl (by rw [hK];decide +kernel)) fun H3 x3=>sp_choicech hr hv _ _ _ (pm ((x1.tr x2).tr x3)) (fun h=>(qt h).to ((x1.tr x2).tr x3)) fun h=>(qf h).to ((x1.tr x2).tr x3)
  | check=>rw [hK] at qt qf;exact btn hK rfl (by decide +kernel) (by decide +kernel) (by decide +kernel) qt qf
  | radio=>rw [hK] at qt qf;exact btn hK rfl (by decide +kernel) (by decide +kernel) (by decide +kernel) qt qf
  | push=>exact non hK rfl (by decide +kernel) (by decide +kernel) rfl
  | sig=>exact non hK rfl (by decide +kernel) (by decide +kernel) rfl
  | no=>exact non hK rfl (by decide +kernel) (by decide +kernel) rfl)
end
end Mine
end
section
namespace Mine
open PySem
inductive PlainV:Nat→MV→Prop
 | bool {d:Nat}(b:Bool):PlainV (d+1) (.bool b)
 | int {d:Nat}(i:Int):PlainV (d+1) (.int i)
 | name {d:Nat}(s:Str):PlainV (d+1) (nmv s)
 | str {d:Nat}(b:List UInt8):PlainV (d+1) (sg b)
 | ref {d:Nat}(i:Int):PlainV (d+1) (rf i)
 | lst {d:Nat}{xs:List MV}:xs.length < 60→(∀x∈xs,PlainV d x)→PlainV (d+1) (.lst xs)
 | dct {d:Nat}{es:Dict}:es.length < 60→NoDupK es→(∀e∈es,∃s,e.1= .inr s)→(∀e∈es,PlainV d e.2)→PlainV (d+1) (.dct es)
theorem PlainV.up {d:Nat}{v:MV}(h:PlainV d v):PlainV (d+1) v:=by
 induction h with
 | bool b=>exact .bool b
 | int i=>exact .int i
 | name s=>exact .name s
 | str b=>exact .str b
 | ref i=>exact .ref i
 | lst h _ ih=>exact .lst h ih
 | dct h n k _ ih=>exact .dct h n k ih
theorem PlainV.some {d:Nat}{v:MV}(h:PlainV d v):isN v=false:=by cases h <;> rfl
theorem plain_up {n:Nat}:∀ {v:MV},plainT n v→plainT (n+1) v:=by
 induction n with
 | zero=>exact fun h=>h.elim
 | succ n ih=>
  intro v h
  cases v with
  | tup xs=>exact fun x hx=>ih (h x hx)
  | int i=>trivial
  | str s=>trivial
  | bytes b=>trivial
  | _=>exact h.elim
theorem plain_le {n m:Nat}(h:n≤m){v:MV}(p:plainT n v):plainT m v:=by
 induction h with
 | refl=>exact p
 | step _ ih=>exact plain_up ih
section
variable {V:View}{n:Nat}{hd:Bool}{E:Hp→Prop}{H:Hp}{Q:Po MV}{es:Dict}{a:Nat}
theorem kind_b {b:Bool}:Rd V (cl (n+1) hd E 277 [.bool b]) (.str "truth"):=fun Q H q=>in277 ⟨rfl,q.now⟩
theorem kind_i {b:Int}:Rd V (cl (n+1) hd E 277 [.int b]) (.str "int"):=fun Q H q=>in277 ⟨rfl,q.now⟩
theorem kind_n {b:Str}:Rd V (cl (n+1) hd E 277 [nmv b]) (.str "name"):=fun Q H q=>in277 ⟨rfl,q.now⟩
theorem kind_s {b:List UInt8}:Rd V (cl (n+1) hd E 277 [sg b]) (.str "string"):=fun Q H q=>in277 ⟨rfl,q.now⟩
theorem kind_l {b:List MV}:Rd V (cl (n+1) hd E 277 [.lst b]) (.str "array"):=fun Q H q=>in277 ⟨rfl,q.now⟩
theorem kind_d:Rd V (cl (n+1) hd E 277 [.dct es]) (.str "dict"):=fun Q H q=>in277 ⟨rfl,q.now⟩
theorem kind_r {b:Int}:Rd V (cl (n+1) hd E 277 [rf b]) (.str "ref"):=fun Q H q=>in277 ⟨rfl,q.now⟩
theorem kind_c (h:∀H,V.p H→H[a]?=some (cD es)):Rd V (cl (n+1) hd E 277 [.ref a]) (.str "dict"):=fun Q H q=>in277 ⟨rfl,_,h _ q.1,_,h _ q.1,_,h _ q.1,_,h _ q.1,_,h _ q.1,_,h _ q.1,_,h _ q.1,q.now⟩
noncomputable def two (k:String)(w:MV):MV:= .tup [.str (Str.ofString k),w]
theorem told_b {b:Bool}:Rd V (cl (n+1) hd E 284 [.str "truth", .bool b]) (two "truth" (.int (bif b then 1 else 0))):=fun Q H q=>in284 (sF0 (V:=V) q.1 (rStr rfl (by decide +kernel)) fun H1 x1=>sT (V:=V) (V.mono x1 q.1) (rStr rfl (by decide +kernel)) fun H2 x2=>by
 cases b <;> exact q.ex (x1.tr x2))
theorem told_i {i:Int}:Rd V (cl (n+1) hd E 284 [.str "int", .int i]) (two "int" (.int i)):=fun Q H q=>in284 (sF0 (V:=vAll) trivial (rStr rfl (by decide +kernel)) fun H1 x1=>sF0 (V:=vAll) trivial (rStr rfl (by decide +kernel)) fun H2 x2=>sT (V:=vAll) trivial (rStr rfl (by decide +kernel)) fun H3 x3=>q.ex ((x1.tr x2).tr x3))
theorem told_n {s:Str}:Rd V (cl (n+1) hd E 284 [.str "name",nmv s]) (two "name" (.str s)):=fun Q H q=>in284 (sF0 (V:=vAll) trivial (rStr rfl (by decide +kernel)) fun H1 x1=>sF0 (V:=vAll) trivial (rStr rfl (by decide +kernel)) fun H2 x2=>sF0 (V:=vAll) trivial (rStr rfl (by decide +kernel)) fun H3 x3=>sF0 (V:=vAll) trivial (rStr rfl (by decide +kernel)) fun H4 x4=>sT (V:=vAll) trivial (rStr rfl (by decide +kernel)) fun H5 x5=>q.ex ((((x1.tr x2).tr x3).tr x4).tr x5))
theorem told_s {b:List UInt8}:Rd V (cl (n+1) hd E 284 [.str "string",sg b]) (two "string" (.bytes b)):=fun Q H q=>in284 (sF0 (V:=vAll) trivial (rStr rfl (by decide +kernel)) fun H1 x1=>sF0 (V:=vAll) trivial (rStr rfl (by decide +kernel)) fun H2 x2=>sF0 (V:=vAll) trivial (rStr rfl (by decide +kernel)) fun H3 x3=>sF0 (V:=vAll) trivial (rStr rfl (by decide +kernel)) fun H4 x4=>sF0 (V:=vAll) trivial (rStr rfl (by decide +kernel)) fun H5 x5=>sT (V:=vAll) trivial (rStr rfl (by decide +kernel)) fun H6 x6=>q.ex (((((x1.tr x2).tr x3).tr x4).tr x5).tr x6))
theorem told_r {i:Int}:Rd V (cl (n+1) hd E 284 [.str "ref",rf i]) (.tup [.str "ref", .int i, .int 0]):=fun Q H q=>in284 (sF0 (V:=vAll) trivial (rStr rfl (by decide +kernel)) fun H1 x1=>sF0 (V:=vAll) trivial (rStr rfl (by decide +kernel)) fun H2 x2=>sF0 (V:=vAll) trivial (rStr rfl (by decide +kernel)) fun H3 x3=>sF0 (V:=vAll) trivial (rStr rfl (by decide +kernel)) fun H4 x4=>sF0 (V:=vAll) trivial (rStr rfl (by decide +kernel)) fun H5 x5=>sF0 (V:=vAll) trivial (rStr rfl (by decide +kernel)) fun H6 x6=>q.ex (((((x1.tr x2).tr x3).tr x4).tr x5).tr x6))
theorem told_p {v w:MV}{k:String}(h1:∀ {n},Rd V (cl (n+1) hd E 277 [v]) (.str k))(ha:strB k "array"=false)(hb:strB k "dict"=false)(hc:strB k "stream"=false)(h2:∀ {n},Rd V (cl (n+1) hd E 284 [.str k,v]) w):Rd V (cl (n+2) hd E 289 [v]) w:=fun Q H q=>
 in289 (sA q.1 h1 fun H1 x1=>sF0 (V:=vAll) trivial (rStr (a:=k) rfl ha) fun H2 x2=>sF0 (V:=vAll) trivial (rStr (a:=k) rfl hb) fun H3 x3=>sF0 (V:=vAll) trivial (rStr (a:=k) rfl hc) fun H4 x4=>h2 _ H4 (q.to (((x1.tr x2).tr x3).tr x4)))
noncomputable def keyS (e:Key × MV):Str:=match e.1 with
 | .inr s=>s
 | .inl _=>""
theorem keys_str (h:∀e∈es,∃s,e.1= .inr s):keysV es= (es.map keyS).map .str:=by
 unfold keysV
 rw [List.map_map]
 refine List.map_congr_left fun e he=>?_
 obtain ⟨s,hs⟩:=h e he
 unfold keyS
 show keyV e.1=MV.str (match e.1 with | .inr s=>s | .inl _=>"")
 rw [hs];rfl
noncomputable def entries (es:Dict)(g:Str→MV):MV:= .tup (.str "dict"::(sortBy strLe (es.map keyS)).map fun k=> .tup [.str k,g k])
theorem told_d {X:MV}{g:Str→MV}(hX:DctV V X es)(hk:∀ {n},Rd V (cl (n+1) hd E 277 [X]) (.str "dict"))(hs:∀e∈es,∃s,e.1= .inr s)(hl:es.length < 60)(hg:∀k∈sortBy strLe (es.map keyS),∃v,dlook es (.inr k) =some v∧isN v=false∧∀E,Rd V (cl (n+1) hd E 289 [v]) (g k)):Rd V (cl (n+2) hd E 289 [X]) (entries es g):=fun Q H q=>in289 (sA q.1 hk fun H1 x1=>sF0 (V:=vAll) trivial (rStr rfl (by decide +kernel)) fun H2 x2=>sT (V:=vAll) trivial (rStr rfl (by decide +kernel)) fun H3 x3=>by
 have q:=q.to ((x1.tr x2).tr x3)
 have ln:(sortBy strLe (es.map keyS)).length=es.length:=(sortBy_perm _).length_eq.trans (List.length_map _)
 have lm:∀ {f:Str→MV},((sortBy strLe (es.map keyS)).map f).length≤60:=fun {f}=>by rw [List.length_map,ln];exact Nat.le_of_lt hl
 have ls:∀ {f:Str→MV},((sortBy strLe (es.map keyS)).map f).length≤sizeMost:=fun {f}=>Nat.le_trans lm (Nat.le_of_ble_eq_true rfl)
 refine sR (v:=entries es g) q.1 (rCat (xs:=[.str "dict"]) (fun Q H q=>q.now) (rTuple (rLcp (flat_one (g:=fun k=>MV.tup [.str k,g k])▸rComp (u:= .str) (rOver (rSort (v:= .lst ((sortBy strLe (es.map keyS)).map .str)) (fun Q H q=>q.now) hX fun q=>Or.inr ⟨es.map keyS,keys_str hs,by rw [List.length_map];exact Nat.lt_trans hl (by decide),ls,q⟩) ls) fun k hk=>?_) ls) ls) nofun (Nat.le_trans (Nat.add_le_add_left lm 1) (Nat.le_of_ble_eq_true rfl))) fun H4 x4=>q.ex x4
 obtain ⟨v,h1,h2,h3⟩:=hg k hk
 refine rTurn rfl (rAnd (c:=true) (rCmp (rItmD rfl rfl hX (k:= .inr k) h1) rCst fun _ _ q=>⟨rfl,by rw [h2];exact q⟩) fun _=>rYes) (rOne (rTupC (rCons (rLv rfl) (rCons (rKall (rCons (rItmD rfl rfl hX (k:= .inr k) h1) rNil) (h3 noE)) rNil)))))
end
structure ToldIs (d:Nat)(v w:MV):Prop where
 rd:∀(V:View) hd E n,Rd V (cl (n+d+1) hd E 289 [v]) w
 pl:plainT (2 * d) w
theorem choose_fn {α:Type}{P:α→MV→Prop}{xs:List α}(h:∀x∈xs,∃w,P x w):∃g:α→MV,∀x∈xs,P x (g x):=
 have:Nonempty MV:=⟨.none⟩
 ⟨fun x=>Classical.epsilon (P x),fun x hx=>Classical.epsilon_spec (h x hx)⟩
theorem plain_two {d:Nat}{k:Str}{w:MV}(h:plainT (d+1) w):plainT (2 * (d+1)) (.tup [.str k,w]):=plain_le (n:=d+2) (by omega) fun x hx=>by
 rcases List.mem_cons.mp hx with rfl | hx
 ·trivial
 ·rw [List.mem_singleton.mp hx];exact h
theorem told_ok {d:Nat}{v:MV}(h:PlainV d v):∃w,ToldIs d v w:=by
 induction h with
 | bool b=>exact ⟨_,fun V hd E n=>told_p kind_b (by decide +kernel) (by decide +kernel) (by decide +kernel) told_b,plain_two trivial⟩
 | int i=>exact ⟨_,fun V hd E n=>told_p kind_i (by decide +kernel) (by decide +kernel) (by decide +kernel) told_i,plain_two trivial⟩
 | name s=>exact ⟨_,fun V hd E n=>told_p kind_n (by decide +kernel) (by decide +kernel) (by decide +kernel) told_n,plain_two trivial⟩
 | str b=>exact ⟨_,fun V hd E n=>told_p kind_s (by decide +kernel) (by decide +kernel) (by decide +kernel) told_s,plain_two trivial⟩
 | ref i=>exact ⟨_,fun V hd E n=>told_p kind_r (by decide +kernel) (by decide +kernel) (by decide +kernel) told_r,plain_le (n:=2) (by omega) fun x hx=>by
   rcases List.mem_cons.mp hx with rfl | hx
   ·trivial
   ·rcases List.mem_cons.mp hx with rfl | hx
    ·trivial
    ·rw [List.mem_singleton.mp hx];trivial⟩
 | @lst d xs hl _ ih=>
  obtain ⟨g,hg⟩:=choose_fn ih
  have lm:∀ {f:MV→MV},(xs.map f).length≤60:=fun {f}=>by rw [List.length_map];exact Nat.le_of_lt hl
  have ls:∀ {f:MV→MV},(xs.map f).length≤sizeMost:=fun {f}=>Nat.le_trans lm (Nat.le_of_ble_eq_true rfl)
  refine ⟨.tup (.str "array"::xs.map g),fun V hd E n Q H q=>in289 (sA q.1 kind_l fun H1 x1=>sT (V:=vAll) trivial (rStr rfl (by decide +kernel)) fun H2 x2=>?_),?_⟩
  ·refine ⟨Nat.le_trans (Nat.le_of_lt hl) (Nat.le_of_ble_eq_true rfl),(each_rd (V:=V) (g:=fun x=>[g x]) fun x hx Q H q=>(hg x hx).rd V hd noE n _ _ q).run (V.mono (x1.tr x2) q.1) fun H4 x4=>?_⟩
   rw [flat_one]
   exact ⟨ls,ls,nofun,Nat.le_trans (Nat.add_le_add_left lm 1) (Nat.le_of_ble_eq_true rfl),q.ex ((x1.tr x2).tr x4)⟩
  ·show ∀x∈_,plainT (2 * d+1) x
   intro x hx
   rcases List.mem_cons.mp hx with rfl | hx
   ·trivial
   ·obtain ⟨y,hy,rfl⟩:=List.mem_map.mp hx
    exact plain_up (hg y hy).pl
 | @dct d es hl hn hk _ ih=>
  have ok:∀k∈sortBy strLe (es.map keyS),∃w,∃v,dlook es (.inr k) =some v∧isN v=false∧ToldIs d v w:=fun k hm=>by
   obtain ⟨e,he,rfl⟩:=List.mem_map.mp ((sortBy_perm _).mem_iff.mp hm)
   obtain ⟨w,hw⟩:=ih e he
   obtain ⟨k,v⟩:=e
   obtain ⟨s,rfl⟩:=hk _ he
   exact ⟨w,v,look_of_mem hn he,(‹∀e∈es,PlainV d e.2› _ he).some,hw⟩
  obtain ⟨g,hg⟩:=choose_fn ok
  refine ⟨entries es g,fun V hd E n=>told_d .dct kind_d hk hl fun k hm=>?_,?_⟩
  ·obtain ⟨v,h1,h2,h3⟩:=hg k hm
   exact ⟨v,h1,h2,fun E=>h3.rd V hd E n⟩
  ·show ∀x∈_,plainT (2 * d+1) x
   intro x hx
   rcases List.mem_cons.mp hx with rfl | hx
   ·trivial
   ·obtain ⟨k,hm,rfl⟩:=List.mem_map.mp hx
    obtain ⟨v,h1,h2,h3⟩:=hg k hm
    exact fun x hx=>by
     rcases List.mem_cons.mp hx with rfl | hx
     ·cases d with
      | zero=>exact h3.pl.elim
      | succ d=>trivial
     ·rw [List.mem_singleton.mp hx];exact h3.pl
end Mine
end
section
namespace Mine
open PySem
noncomputable def sh2 (a b:MV):MV:= .inst 375 [a,b]
noncomputable def NumT (T:Tab):Prop:=T.map (·.1) = (List.range T.length).map fun (i:Nat)=>((i:Int) +1)
theorem asc_num {T:Tab}(h:NumT T):(T.map (·.1)).Pairwise (· ≤ ·):=by
 rw [h]
 exact List.Pairwise.map _ (fun a b (h:a < b)=>Int.add_le_add_right (Int.ofNat_le.mpr (Nat.le_of_lt h)) 1) List.pairwise_lt_range
theorem noDup_num {T:Tab}(h:NumT T):NoDupT T:=by
 unfold NoDupT
 rw [h]
 exact List.Pairwise.map _ (fun a b (h:a < b)=>Int.ne_of_lt (Int.add_lt_add_right (Int.ofNat_lt.mpr h) 1)) List.pairwise_lt_range
theorem keys_tabE {T:Tab}:keysV (tabE T) = (T.map (·.1)).map MV.int:=by unfold keysV tabE;rw [List.map_map,List.map_map];rfl
theorem row_at {T:Tab}(h:NoDupT T){p:Int × Dict}(hp:p∈T):dlook (tabE T) (.inl p.1) =some (.tup [.int 0, .dct p.2]):=look_of_mem (noDup_tabE h) (List.mem_map.mpr ⟨p,hp,rfl⟩)
theorem tget_mem {T:Tab}{k:Int}{d:Dict}(h:tget T k=some d):(k,d)∈T:=by
 induction T with
 | nil=>cases h
 | cons p T ih=>
  by_cases q:p.1=k
  ·rw [tget_t q] at h
   cases h
   rw [← q];exact .head _
  ·rw [tget_f q] at h
   exact .tail _ (ih h)
theorem tget_of_mem {T:Tab}(h:NoDupT T){p:Int × Dict}(hm:p∈T):tget T p.1=some p.2:=by
 induction T with
 | nil=>cases hm
 | cons x T ih=>
  have h':=List.nodup_cons.mp h
  rcases List.mem_cons.mp hm with rfl | hm
  ·exact tget_t rfl
  ·rw [tget_f fun w=>h'.1 (by show x.1∈_;rw [w];exact List.mem_map.mpr ⟨_,hm,rfl⟩)]
   exact ih h'.2 hm
section
variable {V:View}{n t tr:Nat}{hd:Bool}{E:Hp→Prop}{H:Hp}{Q:Po MV}{X Y:MV}{T:Tab}
theorem sp_numbers (hX:DctV V X (tabE T))(hn:NumT T)(hl:T.length < 64):Rd V (cl (n+1) hd E 360 [sh2 X Y]) (.lst ((T.map (·.1)).map .int)):=fun Q H q=>in360 (rSort (V:=V) (K:=KF n hd E Q) (l:=[some (sh2 X Y),none]) (e:=fd 375 0 (lv 0)) (X:=X) (fun Q H q=>q.now) hX (fun q=>by
 rw [keys_tabE]
 refine Or.inl ⟨T.map (·.1),rfl,by rw [List.length_map];exact hl,?_⟩
 rw [← sortInt_eq (.refl _) (asc_num hn)]
 exact ⟨by rw [List.length_map,List.length_map];exact Nat.le_trans (Nat.le_of_lt hl) (Nat.le_of_ble_eq_true rfl),q⟩) Q H q)
theorem told_trl:Rd (sees t tr T) (cl (n+3) hd E 289 [.ref tr]) (entries [(.inr "Root",rf 1)] fun _=> .tup [.str "ref", .int 1, .int 0]):=told_d (n:=n+1) (.ref fun H h=>h.2) (kind_c fun H h=>h.2) (fun e he=>by rw [List.mem_singleton.mp he];exact ⟨_,rfl⟩) (show 1 < 60 from Nat.le_of_ble_eq_true rfl) fun k hk=>by
 have e:k="Root":=List.mem_singleton.mp hk
 subst e
 exact ⟨rf 1,rfl,rfl,fun E=>told_p kind_r (by decide +kernel) (by decide +kernel) (by decide +kernel) told_r⟩
end
noncomputable def AllPlain (T:Tab):Prop:=∀p∈T,PlainV 4 (.dct p.2)
noncomputable def rowT (g:Int × Dict→MV)(p:Int × Dict):MV:= .tup [.int p.1, .int 0,g p]
noncomputable def keyI (p:Int × Dict):MV:= .int p.1
theorem told_shelf {T:Tab}(hn:NumT T)(hl:T.length < 64)(hp:AllPlain T):∃w,(∀(t tr n:Nat)(hd:Bool) E (X:MV),DctV (sees t tr T) X (tabE T)→Rd (sees t tr T) (cl (n+8) hd E 372 [sh2 X (.ref tr)]) (.tup w))∧plainT 50 (.tup w):=by
 obtain ⟨g,hg⟩:=choose_fn fun p hm=>told_ok (hp p hm)
 have lm:∀ {f:Int × Dict→MV},(T.map f).length≤sizeMost:=fun {f}=>by rw [List.length_map];exact Nat.le_trans (Nat.le_of_lt hl) (Nat.le_of_ble_eq_true rfl)
 refine ⟨[.tup (T.map (rowT g)),entries [(.inr "Root",rf 1)] fun _=> .tup [.str "ref", .int 1, .int 0]],fun t tr n hd E X hX Q H q=>in372 (sA (V:=sees t tr T) q.1 (v:= .tup (T.map (rowT g))) (rTuple (rLcp (flat_one (g:=rowT g)▸rComp (u:=keyI) (rOver (xs:=T.map keyI) (fun Q H q=>?_) lm) fun p hm=>?_) lm) lm) fun H2 x2=>told_trl.run ((sees t tr T).mono x2 q.1) fun H3 x3=>q.ex (x2.tr x3)),fun x hx=>?_⟩
 ·have:=sp_numbers (n:=n+6) (hd:=hd) (E:=E) (Y:= .ref tr) hX hn hl
  rw [List.map_map] at this
  exact this _ _ q
 ·have e:=row_at (noDup_num hn) hm
  have it:∀ {K:Kx},Rd (sees t tr T) (itm (fd 375 0 (lv 3)) (lv 1) K [none,some (keyI p),none,some (sh2 X (.ref tr))]) (.tup [.int 0, .dct p.2]):=fun {K}=>rItmE (k:= .inl p.1) (fun Q H q=>q.now) (rLv rfl) hX e
  exact rTurn rfl rYes (rOne (rTupC (rCons (rLv rfl) (rCons (rTup (k:=0) it (by decide) rfl) (rCons (rKall (rCons (rTup (k:=1) it (by decide) rfl) rNil) ((hg p hm).rd (sees t tr T) hd noE (n+2))) rNil)))))
 ·rcases List.mem_cons.mp hx with rfl | hx
  ·exact fun x hx=>by
    obtain ⟨p,hm,rfl⟩:=List.mem_map.mp hx
    exact fun x hx=>by
     rcases List.mem_cons.mp hx with rfl | hx
     ·trivial
     ·rcases List.mem_cons.mp hx with rfl | hx
      ·trivial
      ·rw [List.mem_singleton.mp hx];exact plain_le (by decide) (hg p hm).pl
  ·rw [List.mem_singleton.mp hx]
   exact fun x hx=>by
    rcases List.mem_cons.mp hx with rfl | hx
    ·trivial
    ·obtain ⟨k,_,rfl⟩:=List.mem_map.mp hx
     exact fun x hx=>by
      rcases List.mem_cons.mp hx with rfl | hx
      ·trivial
      ·rw [List.mem_singleton.mp hx]
       exact fun x hx=>by
        rcases List.mem_cons.mp hx with rfl | hx
        ·trivial
        ·rcases List.mem_cons.mp hx with rfl | hx
         ·trivial
         ·rw [List.mem_singleton.mp hx];trivial
end Mine
end
section
namespace Mine
open PySem
section
variable {V:View}{K:Kx}{l:Loc}{M:Loc→Hp→Prop}{H:Hp}{b:Cs}{e a:Cd MV}{t:Cd Bool}{i c:Nat}{v w x:MV}{acc ys:List MV}{m B:Bool}
theorem sApp (e1:lat l i=some (.ref c))(p:V.p H)(hc:H[c]?=some (cL acc))(hl:acc.length < sizeMost)(h:Rd V (e K l) v)(q:∀H2,Ext H H2→b K M l (H2.set c (cL (acc ++ [v])))):sq (exS (mth m .list .append (lv i) [e])) b K M l H:=by
 show lv i K l (fun u h=>hasKnd .list u h (e K l (fun x=>prim m K.hd .append [u,x] fun _=>b K M l) h)) H
 exact lvE K e1 ⟨_,hc,h.run p fun H2 x=>⟨_,x.get hc,hl,q H2 x⟩⟩
theorem sNewL (q:b K M (lput l i (.ref H.length)) (H ++ [cL []])):sq (asS (.one i) (lstC true [])) b K M l H:=⟨Nat.zero_le _,q⟩
theorem sFrz (e1:lat l i=some (.ref c))(hc:H[c]?=some (cL acc))(q:K.ret (.lst acc) (H.set c ⟨.frz, .list acc⟩)):sq (retS (frL (lv i))) b K M l H:=lvE K e1 ⟨_,_,hc,trivial,q⟩
theorem rInR (h1:Rd V (e K l) v)(e1:lat l i=some (.ref c))(hc:∀H,V.p H→H[c]?=some (cL ys))(ok:allOk v ys):Rd V (tCmp .in e (lv i) K l) (memB v ys):=fun Q H q=>h1 _ H ⟨q.1,fun H2 x p=>lvE K e1 ⟨_,hc H2 p,ok,q.ex x⟩⟩
end
noncomputable def nextS (lone:Bool)(s:MV)(st:List String)(acc:List MV):MV:=bif memB s ((onS st).map strV) && !(lone && memB s acc) then s else strV "Off"
noncomputable def shownL (lone:Bool)(s:MV):List (List String)→List MV→List MV
 | [],acc=>acc
 | st::sts,acc=>shownL lone s sts (acc ++ [nextS lone s st acc])
noncomputable def loneR (r:Rw):Bool:=strB (kindK r.w r.f).s "radio" && !fbit r.f 26
theorem next_str {lone:Bool}{s:Str}{st:List String}{acc:List MV}:isStr (nextS lone (.str s) st acc) =true:=by
 unfold nextS
 cases memB (.str s) ((onS st).map strV) && !(lone && memB (.str s) acc) <;> rfl
inductive ShI (T:Tab)(c:Nat)(H0:Hp)(L:Option MV→Option MV→Loc)(lone:Bool)(s:Str)(all:List (List String))(xs:List MV)(l:Loc)(H:Hp):Prop
 | mk (ws:List Int)(sts:List (List String))(acc:List MV)(u w:Option MV):xs=ws.map rf→WSts T ws sts→l=L u w→H[c]?=some (cL acc)→(∀y∈acc,isStr y=true)→Ext H0 H→shownL lone (.str s) all [] =shownL lone (.str s) sts acc→acc.length+ws.length≤10→ShI T c H0 L lone s all xs l H
theorem on_all {st:List String}:∀y∈(onS st).map strV,isStr y=true:=fun y hy=>by
 obtain ⟨k,_,rfl⟩:=List.mem_map.mp hy
 rfl
section
variable {V:View}{t tr n:Nat}{E:Hp→Prop}{T:Tab}{r:Rw}{s:Str}
theorem sp_shown (hr:RowOk T r):Rd (sees t tr T) (cl (n+6) false E 639 [shv t tr,r.leaf, .str s]) (.lst (shownL (loneR r) (.str s) r.sts [])):=fun Q H q=>in639 (sNewL (by
 have pm:∀ {H2},Ext H H2→(sees t tr T).p H2:=fun x=>(sees t tr T).mono x q.1
 refine sA (pm Ext.rfl'.al) (rOf (rAnd (rTo (rKind rfl rfl)) fun _=>rTo (rNot (c:=fbit r.f 26) fun Q' H q=>sp_has (w:="in unison") hr.ffP (by decide) _ H q))) fun H1 x1=>?_
 have wl:(r.wids.map rf).length≤sizeMost:=by rw [List.length_map];exact Nat.le_trans hr.wl (Nat.le_of_ble_eq_true rfl)
 refine sFor (V:=vAll) (xs:=r.wids.map rf) (ShI T H.length H (fun u w=>[some (shv t tr),some r.leaf,some (.str s),some (.ref H.length),some (.bool (loneR r)),u,w,none,none,none]) (loneR r) s r.sts) trivial (rOver (fun Q H q=>q.now) wl) (fun H2 x2=> .mk r.wids r.sts [] none none rfl hr.sts rfl ((x1.tr x2).get at_new) nofun (Ext.rfl'.al.tr (x1.tr x2)) rfl (by rw [List.length_nil,Nat.zero_add];exact hr.wl)) (fun {x xs l H'} i B N' hN=>?_) fun l H' i=>?_
 ·obtain ⟨ws,sts,acc,u,w,e,hw,rfl,hc,ha,ex,eq,hl⟩:=i
  cases ws with
  | nil=>cases e
  | cons wd ws=>
   cases sts with
   | nil=>exact hw.elim
   | cons st sts=>
    obtain ⟨⟨d,d1,d2⟩,hw⟩:=hw
    obtain ⟨rfl,rfl⟩:=List.cons.inj e
    rw [List.length_cons] at hl
    have p2:(both (sees t tr T) (cellV H.length (cL acc))).p H':=⟨pm ex,hc⟩
    have al:acc.length < sizeMost:=Nat.lt_of_lt_of_le (Nat.lt_of_lt_of_le (Nat.lt_of_lt_of_le (Nat.lt_add_of_pos_right (Nat.succ_pos _)) hl) (Nat.le_refl _)) (Nat.le_of_ble_eq_true rfl)
    refine sA p2 (rOf (rAnd (rTo (rIn (rLv rfl) (rKall (rCons (rLv rfl) (rCons (rLv rfl) rNil)) ((sp_onstates d1 d2).weak fun H h=>h.1)) (str_ok on_all (.inl rfl)))) fun _=>rTo (rNot (rTo (rAnd (rTv rfl) fun _=>rTo (rInR (rLv rfl) rfl (fun H h=>h.2) (str_ok ha (.inl rfl)))))))) fun H2 x2=>sApp (V:=vAll) rfl trivial (x2.get hc) al (rIf (rTv rfl) (fun _=>rLv rfl) fun _=>rCst) fun H3 x3=>hN _ _ (.mk ws sts _ _ _ rfl hw rfl (at_set ((x2.tr x3).get hc)) (fun y hy=>?_) (((ex.tr x2).tr x3).st (Nat.le_refl _)) eq ?_)
    ·rcases List.mem_append.mp hy with hy | hy
     ·exact ha y hy
     ·rw [List.mem_singleton.mp hy];exact next_str
    ·rw [List.length_append,List.length_singleton,Nat.add_right_comm];exact hl
 ·obtain ⟨ws,sts,acc,u,w,e,hw,rfl,hc,ha,ex,eq,hl⟩:=i
  cases ws with
  | cons wd ws=>cases e
  | nil=>
   cases sts with
   | cons st sts=>exact hw.elim
   | nil=>
    refine sFrz rfl hc ?_
    rw [show acc=shownL (loneR r) (.str s) r.sts [] from eq.symm]
    exact q.ex (ex.st (Nat.le_refl _))))
end
end Mine
end
section
namespace Mine
open PySem
noncomputable def allK:List String:=["T","Parent","FT","Ff","V","DV","MaxLen","Opt","AP","AS","Subtype","Kids","I","Fields","NeedAppearances","AcroForm"]
noncomputable abbrev sK (k:String):Key:= .inr (Str.ofString k)
structure DOk (d:Dict):Prop where
 nd:NoDupK d
 ks:∀e∈d,e.1∈allK.map sK
 pl:∀e∈d,PlainV 3 e.2
theorem DOk.len {d:Dict}(h:DOk d):d.length≤16:=by
 have:=List.Nodup.length_le_of_subset (l₂:=allK.map sK) h.nd fun k hk=>by
  obtain ⟨e,he,rfl⟩:=List.mem_map.mp hk
  exact h.ks e he
 rw [List.length_map,List.length_map] at this
 exact this
theorem DOk.nil:DOk []:=⟨List.nodup_nil,nofun,nofun⟩
theorem mem_dput {es:Dict}{k:Key}{v:MV}{e:Key × MV}(h:e∈dput es k v):e∈es∨e= (k,v):=by
 unfold dput at h
 rw [any_look] at h
 cases hs:(dlook es k).isSome with
 | true=>
  rw [hs,if_pos rfl] at h
  obtain ⟨x,hx,rfl⟩:=List.mem_map.mp h
  by_cases hk:x.1=k
  ·rw [if_pos hk,hk];exact .inr rfl
  ·rw [if_neg hk];exact .inl hx
 | false=>
  rw [hs,if_neg Bool.false_ne_true] at h
  exact (List.mem_append.mp h).imp (fun h=>h) List.mem_singleton.mp
theorem noDup_dput {es:Dict}{k:Key}{v:MV}(h:NoDupK es):NoDupK (dput es k v):=by
 unfold dput
 rw [any_look]
 cases hs:dlook es k with
 | some u=>
  rw [if_pos (show (some u).isSome=true from rfl)]
  unfold NoDupK
  rw [List.map_map,show (fun e:Key × MV=>e.1) ∘ (fun e=>if e.1=k then (e.1,v) else e) = (·.1) from funext fun e=>by
   show (if e.1=k then (e.1,v) else e).1=e.1
   by_cases hk:e.1=k
   ·rw [if_pos hk]
   ·rw [if_neg hk]]
  exact h
 | none=>
  rw [if_neg (show ¬ (Option.none:Option MV).isSome=true from nofun)]
  unfold NoDupK
  rw [List.map_append]
  refine List.nodup_append.mpr ⟨h,List.nodup_cons.mpr ⟨List.not_mem_nil,List.nodup_nil⟩,fun a ha b hb w=>?_⟩
  obtain ⟨e,he,rfl⟩:=List.mem_map.mp ha
  exact look_none.mp hs e he (w.trans (List.mem_singleton.mp hb))
theorem DOk.put {d:Dict}(h:DOk d){k:Key}(hk:k∈allK.map sK){v:MV}(hv:PlainV 3 v):DOk (dput d k v):=⟨noDup_dput h.nd,fun e he=>by
 rcases mem_dput he with he | rfl
 ·exact h.ks e he
 ·exact hk,fun e he=>by
 rcases mem_dput he with he | rfl
 ·exact h.pl e he
 ·exact hv⟩
theorem DOk.del {d:Dict}(h:DOk d){k:Key}:DOk (ddel d k):=⟨(List.Sublist.map _ List.filter_sublist).nodup h.nd,fun e he=>h.ks e (List.mem_filter.mp he).1,fun e he=>h.pl e (List.mem_filter.mp he).1⟩
theorem DOk.puts {l:Dict}(hk:∀e∈l,e.1∈allK.map sK)(hp:∀e∈l,PlainV 3 e.2):∀ {g:Dict},DOk g→DOk (dputs g l):=by
 induction l with
 | nil=>exact fun h=>h
 | cons e l ih=>exact fun h=>ih (fun e he=>hk e (.tail _ he)) (fun e he=>hp e (.tail _ he)) (h.put (hk e (.head _)) (hp e (.head _)))
theorem DOk.plain {d:Dict}(h:DOk d):PlainV 4 (.dct d):= .dct (Nat.lt_of_le_of_lt h.len (by decide)) h.nd (fun e he=>by
 obtain ⟨k,_,h2⟩:=List.mem_map.mp (h.ks e he)
 exact ⟨_,h2.symm⟩) h.pl
structure TbOk (T:Tab):Prop where
 num:NumT T
 len:T.length < 64
 ok:∀p∈T,DOk p.2
section
variable {T T' T1 T2:Tab}{k:Int}{d d':Dict}
theorem TbOk.plain (h:TbOk T):AllPlain T:=fun p hp=>(h.ok p hp).plain
theorem mem_tput {p:Int × Dict}(h:p∈tput T k d):p∈T∨p.2=d:=by
 induction T with
 | nil=>exact .inr (by rw [List.mem_singleton.mp h])
 | cons q T ih=>
  by_cases hq:q.1=k
  ·rw [tput_t hq] at h
   exact (List.mem_cons.mp h).elim (fun e=> .inr (by rw [e])) fun h=> .inl (.tail _ h)
  ·rw [tput_f hq] at h
   exact (List.mem_cons.mp h).elim (fun e=> .inl (by rw [e];exact .head _)) fun h=>(ih h).imp (.tail _) fun h=>h
theorem TbOk.put (h:TbOk T)(hk:tget T k=some d')(hd:DOk d):TbOk (tput T k d):=by
 have e:=tput_keys (d:=d) hk
 have el:(tput T k d).length=T.length:=by rw [← List.length_map (f:=(·.1)),e,List.length_map]
 refine ⟨?_,el▸h.len,fun p hp=>(mem_tput hp).elim (h.ok p) fun w=>w▸hd⟩
 unfold NumT
 rw [e,el];exact h.num
theorem TbOk.get (h:TbOk T)(hk:tget T k=some d):DOk d:=h.ok _ (tget_mem hk)
theorem TbOk.nd (h:TbOk T):NoDupT T:=noDup_num h.num
noncomputable def Keeps (T T':Tab):Prop:=∀k d,tget T k=some d→∃d',tget T' k=some d'∧dlook d' (sK "AP") =dlook d (sK "AP")
theorem Keeps.rfl':Keeps T T:=fun k d h=>⟨d,h,rfl⟩
theorem Keeps.tr (a:Keeps T T1)(b:Keeps T1 T2):Keeps T T2:=fun k d h=>by
 obtain ⟨d1,h1,e1⟩:=a k d h
 obtain ⟨d2,h2,e2⟩:=b k d1 h1
 exact ⟨d2,h2,e2.trans e1⟩
theorem Keeps.put (h:tget T k=some d)(e:dlook d' (sK "AP") =dlook d (sK "AP")):Keeps T (tput T k d'):=fun k' x hx=>by
 by_cases w:k=k'
 ·subst w
  rw [h] at hx
  cases hx
  exact ⟨d',by rw [tget_tput,if_pos rfl],e⟩
 ·exact ⟨x,by rw [tget_tput,if_neg w];exact hx,rfl⟩
theorem WSts.keep (h:Keeps T T'){ws:List Int}:∀ {ss:List (List String)},WSts T ws ss→WSts T' ws ss:=by
 induction ws with
 | nil=>exact fun {ss} hs=>by cases ss <;> exact hs
 | cons w ws ih=>
  intro ss hs
  cases ss with
  | nil=>exact hs
  | cons s ss=>
   obtain ⟨⟨d,h1,h2⟩,hs⟩:=hs
   obtain ⟨d',h3,h4⟩:=h w d h1
   exact ⟨⟨d',h3,⟨h4.trans h2.ap,h2.mem⟩⟩,ih hs⟩
theorem RowOk.keep {r:Rw}(h:Keeps T T')(hr:RowOk T r):RowOk T' r:={hr with
 sts:=hr.sts.keep h
 head:=by
  obtain ⟨d,hd⟩:=hr.head
  obtain ⟨d',h1,_⟩:=h _ _ hd
  exact ⟨d',h1⟩}
theorem wsts_get {ws:List Int}:∀ {ss:List (List String)},WSts T ws ss→∀w∈ws,∃d,tget T w=some d:=by
 induction ws with
 | nil=>exact fun _ w hw=>nomatch hw
 | cons w ws ih=>
  intro ss hs x hx
  cases ss with
  | nil=>exact hs.elim
  | cons s ss=>
   obtain ⟨⟨d,h1,h2⟩,hs⟩:=hs
   rcases List.mem_cons.mp hx with rfl | hx
   ·exact ⟨d,h1⟩
   ·exact ih hs x hx
end
noncomputable def asD (s:MV)(d:Dict):Dict:=dput d (sK "AS") (.inst 195 [s])
noncomputable def layW:Tab→List (Int × MV)→Tab
 | T,[]=>T
 | T,p::r=>layW (tput T p.1 (asD p.2 ((tget T p.1).getD []))) r
structure Lays (T T':Tab)(ks:Int→Prop):Prop where
 ok:TbOk T'
 keep:Keeps T T'
 off:∀k,¬ ks k→tget T' k=tget T k
theorem Lays.tr {T T1 T2:Tab}{ks:Int→Prop}(a:Lays T T1 ks)(b:Lays T1 T2 ks):Lays T T2 ks:=⟨b.ok,a.keep.tr b.keep,fun k h=>(b.off k h).trans (a.off k h)⟩
theorem Lays.one {T:Tab}{k:Int}{d d':Dict}{ks:Int→Prop}(hT:TbOk T)(hk:tget T k=some d)(hd:DOk d')(e:dlook d' (sK "AP") =dlook d (sK "AP"))(hks:ks k):Lays T (tput T k d') ks:=⟨hT.put hk hd, .put hk e,fun k' h=>by rw [tget_tput,if_neg (fun w:k=k'=>h (w▸hks))]⟩
theorem inK {k:String}(h:k∈allK):sK k∈allK.map sK:=List.mem_map.mpr ⟨k,h,rfl⟩
theorem as_ok {d:Dict}{s:Str}(h:DOk d):DOk (asD (.str s) d)∧dlook (asD (.str s) d) (sK "AP") =dlook d (sK "AP"):=⟨h.put (inK (by decide)) (.name s),put_other (by decide)⟩
theorem layW_ok {ks:Int→Prop}{L:List (Int × MV)}:∀ {T:Tab},TbOk T→(∀p∈L,ks p.1∧isStr p.2=true∧∃d,tget T p.1=some d)→Lays T (layW T L) ks:=by
 induction L with
 | nil=>exact fun hT _=>⟨hT, .rfl',fun _ _=>rfl⟩
 | cons p L ih=>
  intro T hT hL
  obtain ⟨w,s⟩:=p
  obtain ⟨h1,h2,d,h3⟩:=hL _ (.head _)
  obtain ⟨s,rfl⟩:=str_of h2
  have one:Lays T (tput T w (asD (.str s) ((tget T w).getD []))) ks:=by
   rw [h3]
   exact .one hT h3 (as_ok (hT.get h3)).1 (as_ok (hT.get h3)).2 h1
  exact one.tr (ih one.ok fun p hp=>by
   obtain ⟨a,b,d,c⟩:=hL p (.tail _ hp)
   obtain ⟨d',c,_⟩:=one.keep _ _ c
   exact ⟨a,b,d',c⟩)
end Mine
end
section
namespace Mine
open PySem
structure ChK (e:Key × MV):Prop where
 ks:e.1∈allK.map sK
 ap:e.1≠sK "AP"
 pl:isN e.2=false→PlainV 3 e.2
theorem v_ap:sK "V"≠sK "AP"∧sK "I"≠sK "AP":=by decide
theorem texts_le {v:Val}(hv:v∈valAll):v.texts.length≤10:=by
 have:=(val_ok v hv).2
 cases v with
 | s t=>exact Nat.le_of_ble_eq_true rfl
 | l ts=>exact (List.length_map (f:=MV.str) (as:=ts))▸this
 | n=>exact Nat.zero_le _
theorem chgD_ok {r:Rw}{v:Val}(hv:v∈valAll):NoDupK (chgD r v)∧(∀e∈chgD r v,ChK e)∧(chgD r v).length≤2:=by
 have htl:=texts_le hv
 have one:∀ {w},PlainV 3 w→NoDupK [(sK "V",w)]∧(∀e∈ [(sK "V",w)],ChK e)∧ [(sK "V",w)].length≤2:=fun h=>⟨List.nodup_cons.mpr ⟨List.not_mem_nil,List.nodup_nil⟩,fun e he=>by rw [List.mem_singleton.mp he];exact ⟨inK (by decide),v_ap.1,fun _=>h⟩,Nat.le_of_ble_eq_true rfl⟩
 unfold chgD
 cases kindK r.w r.f with
 | text=>exact one (.str _)
 | choice=>
  refine ⟨(by decide: [sK "V",sK "I"].Nodup),fun e he=>?_,Nat.le_refl _⟩
  rcases List.mem_cons.mp he with rfl | he
  ·refine ⟨inK (by decide),v_ap.1,fun _=>?_⟩
   show PlainV 3 (valV v)
   unfold valV
   cases v.isL with
   | true=>
    exact .lst (by rw [List.length_map];exact Nat.lt_of_le_of_lt htl (by decide)) fun x hx=>by
     obtain ⟨y,_,rfl⟩:=List.mem_map.mp hx
     exact .str _
   | false=>exact .str _
  ·rw [List.mem_singleton.mp he]
   refine ⟨inK (by decide),v_ap.2,?_⟩
   show isN (bif fbit r.f 18 then .none else placesV r.op v.texts) =false→PlainV 3 (bif fbit r.f 18 then .none else placesV r.op v.texts)
   cases fbit r.f 18 with
   | true=>exact nofun
   | false=>
    exact fun _=> .lst (by rw [List.length_map,(sortBy_perm _).length_eq];unfold idxs;rw [List.length_map];exact Nat.lt_of_le_of_lt htl (by decide)) fun x hx=>by
     obtain ⟨y,_,rfl⟩:=List.mem_map.mp hx
     exact .int _
 | _=>exact one (.name _)
theorem turn1_ok {d:Dict}{e:Key × MV}(h:DOk d)(c:ChK e):DOk (turn1 d e)∧dlook (turn1 d e) (sK "AP") =dlook d (sK "AP"):=by
 unfold turn1
 cases hn:isN e.2 with
 | true=>
  refine ⟨h.del,?_⟩
  show dlook (ddel d e.1) (sK "AP") =_
  unfold ddel dlook
  rw [List.find?_filter]
  refine congrArg (fun f=>(List.find? f d).map (·.2)) (funext fun a=>?_)
  by_cases ha:a.1=sK "AP"
  ·rw [decide_eq_true ha,decide_eq_false fun w:a.1=e.1=>c.ap (w.symm.trans ha)];rfl
  ·rw [decide_eq_false ha,show decide (_∧false=true) =false from decide_eq_false fun w=>Bool.false_ne_true w.2]
 | false=>exact ⟨h.put c.ks (c.pl hn),put_other c.ap⟩
theorem turnD_ok {ch:Dict}:(∀e∈ch,ChK e)→∀ {d:Dict},DOk d→DOk (turnD d ch)∧dlook (turnD d ch) (sK "AP") =dlook d (sK "AP"):=by
 induction ch with
 | nil=>exact fun _ d h=>⟨h,rfl⟩
 | cons e ch ih=>
  intro hc d h
  have one:=turn1_ok h (hc e (.head _))
  have:=ih (fun e he=>hc e (.tail _ he)) one.1
  exact ⟨this.1,this.2.trans one.2⟩
noncomputable def isBt (r:Rw):Bool:=(kindK r.w r.f).btn
noncomputable def shows (r:Rw)(v:Val):List (Int × MV):=r.wids.zip (shownL (loneR r) (.str v.txt) r.sts [])
noncomputable def layR (T:Tab)(p:Rw × Val):Tab:=bif isBt p.1 then layW (tput T p.1.num (turnD ((tget T p.1.num).getD []) (chgD p.1 p.2))) (shows p.1 p.2) else tput T p.1.num (turnD ((tget T p.1.num).getD []) (chgD p.1 p.2))
theorem shown_str {lone:Bool}{s:Str}{sts:List (List String)}:∀ {acc:List MV},(∀y∈acc,isStr y=true)→∀y∈shownL lone (.str s) sts acc,isStr y=true:=by
 induction sts with
 | nil=>exact fun h=>h
 | cons st sts ih=>exact fun h=>ih fun y hy=>(List.mem_append.mp hy).elim (h y) fun hy=>by rw [List.mem_singleton.mp hy];exact next_str
noncomputable def Rw.has (r:Rw)(k:Int):Prop:=k=r.num∨k∈r.wids
theorem shows_ok {T:Tab}{r:Rw}{v:Val}(hr:RowOk T r):∀p∈shows r v,r.has p.1∧isStr p.2=true∧∃d,tget T p.1=some d:=fun p hp=>by
 obtain ⟨h1,h2⟩:=List.of_mem_zip hp
 exact ⟨.inr h1,shown_str (acc:=[]) nofun _ h2,wsts_get hr.sts _ h1⟩
theorem head_ok {T:Tab}{r:Rw}{v:Val}(hT:TbOk T)(hr:RowOk T r)(hv:v∈valAll):Lays T (tput T r.num (turnD ((tget T r.num).getD []) (chgD r v))) r.has:=by
 obtain ⟨d,hd⟩:=hr.head
 rw [hd]
 have a:=turnD_ok (chgD_ok (r:=r) hv).2.1 (hT.get hd)
 exact .one hT hd a.1 a.2 (.inl rfl)
theorem layR_ok {T:Tab}{r:Rw}{v:Val}(hT:TbOk T)(hr:RowOk T r)(hv:v∈valAll):Lays T (layR T (r,v)) r.has:=by
 have a:=head_ok hT hr hv
 show Lays T (bif isBt r then _ else _) _
 cases isBt r with
 | true=>exact a.tr (layW_ok a.ok (shows_ok (hr.keep a.keep)))
 | false=>exact a
section
variable {V:View}{K:Kx}{l:Loc}{M:Loc→Hp→Prop}{H:Hp}{b c:Cs}{e a:Cd MV}{i j:Nat}{v w x:MV}{xs ys:List MV}{t tr n:Nat}{T:Tab}{k:Int}{d d':Dict}{es:List (Cd MV)}
theorem sLay (h0:t≠tr)(p:(sees t tr T).p H)(hT:TbOk T)(hd:tget T k=some d')(hc:K.cl=cl (n+2))(h:Rd (sees t tr T) (evs es K l) [shv t tr,rf k, .dct d])(q:∀H2,Chg [t] H H2→(sees t tr (tput T k d)).p H2→b K M l H2):sq (exS (kall 450 es)) b K M l H:=h.run p fun H2 x2=>by
 show K.cl _ _ _ _ _ _
 rw [hc]
 have p2:=(sees t tr T).mono x2 p
 refine wp_lay p2 (Nat.lt_trans hT.len (by decide)) (q _ ((Chg.of x2).st (.inl (.head _))) ?_)
 rw [dput_tabE hT.nd]
 exact ⟨at_set p2.1,at_ne p2.2 h0⟩
theorem rZip (hd:K.hd=false)(h1:Rd V (e K l) (.lst xs))(h2:Rd V (a K l) (.lst ys))(hl:xs.length≤sizeMost):Rd V (izip e a K l) ((xs.zip ys).map pairV):=fun Q H q=>h1 _ H (h2.ev ⟨q.1,fun H2 x p=>⟨hd,hl,q.ex x⟩⟩)
theorem sFor2 {it:Cd (List MV)}{α:Type}{u f g:α→MV}(hu:∀p,u p= .tup [f p,g p])(hd:K.hd=false)(I:List α→Loc→Hp→Prop){zs:List α}{R:Hp→Prop}(hx:∀Q:Po (List MV),(∀H2,R H2→Q (zs.map u) H2)→it K l Q H)(start:∀H2,R H2→I zs l H2)(step:∀ {x xs l H},I (x::xs) l H→∀B N',(∀l H,I xs l H→N' l H)→b (K.loop B) N' (lput (lput l i (f x)) j (g x)) H)(fin:∀l H,I [] l H→c K M l H):sq (forS (.many [i,j]) it b) c K M l H:=
 hx _ fun H2 x2=>forL_inv (fun xs l H=>∃ys,xs=ys.map u∧I ys l H) (fun x xs l H i N' hN=>by
  obtain ⟨ys,e,i⟩:=i
  cases ys with
  | nil=>cases e
  | cons y ys=>
   obtain ⟨rfl,rfl⟩:=List.cons.inj e
   show K.hd=false∧asTup (u y) _
   rw [hu]
   exact ⟨hd,step i _ N' fun l H i=>hN l H ⟨ys,rfl,i⟩⟩) (fun l H i=>by
  obtain ⟨ys,e,i⟩:=i
  cases ys with
  | nil=>exact fin l H i
  | cons y ys=>cases e) ⟨zs,rfl,start H2 x2⟩
noncomputable def pairW (p:Int × MV):MV:= .tup [rf p.1,p.2]
theorem zip_w {ws:List Int}:∀ {ys:List MV},((ws.map rf).zip ys).map pairV= (ws.zip ys).map pairW:=by
 induction ws with
 | nil=>exact rfl
 | cons w ws ih=>
  intro ys
  cases ys with
  | nil=>rfl
  | cons y ys=>exact congrArg (pairW (w,y) :: ·) ih
theorem turn_one {d:Dict}{k:Key}{v:MV}(h:isN v=false):turnD d [(k,v)] =dput d k v:=by
 show turn1 d (k,v) =_
 unfold turn1
 rw [h];rfl
inductive LwI (t tr:Nat)(T0:Tab)(all:List (Int × MV))(H0:Hp)(L:Option MV→Option MV→Loc)(xs:List (Int × MV))(l:Loc)(H:Hp):Prop
 | mk (T:Tab)(u w:Option MV):l=L u w→TbOk T→(sees t tr T).p H→Chg [t] H0 H→layW T xs=layW T0 all→(∀p∈xs,isStr p.2=true∧∃d,tget T p.1=some d)→LwI t tr T0 all H0 L xs l H
theorem chgD_btn {r:Rw}{v:Val}(h:isBt r=true):chgD r v= [(sK "V",nmv v.txt)]:=by
 unfold isBt at h
 unfold chgD
 cases hk:kindK r.w r.f with
 | check=>rfl
 | radio=>rfl
 | _=>rw [hk] at h;cases h
theorem sp_laych {r:Rw}{v:Val}{E:Hp→Prop}{Q:Po MV}(h0:t≠tr)(p:(sees t tr T).p H)(hT:TbOk T)(hr:RowOk T r)(hv:v∈valAll)(hl:letB r v=true)(q:∀H',Chg [t] H H'→(sees t tr (layR T (r,v))).p H'→Q .none H'):cl (n+8) false E 670 [shv t tr,r.leaf, .dct (chgD r v)] Q H:=in670 (by
 obtain ⟨d,hd⟩:=hr.head
 obtain ⟨c1,c2,c3⟩:=chgD_ok (r:=r) hv
 have a:=head_ok hT hr hv
 unfold layR at q
 rw [hd] at a q
 refine sLay (n:=n+5) h0 p hT hd rfl (rCons (rLv rfl) (rCons (fun Q H q=>q.now) (rCons (rKall (rCons (v:= .dct d) (fun Q H q=>sp_fetch_ref rfl hd _ H q) (rCons (rLv rfl) rNil)) (sp_turned c1 (Nat.le_trans (Nat.add_le_add (hT.get hd).len c3) (by decide)))) rNil))) fun H1 c1 p1=>?_
 refine sI0 p1 (rBtnL rfl) (fun hb H2 x2=>?_) fun hb H2 x2=>?_
 ·have q:=fun H' c=>q H' (c1.tr c)
  rw [show isBt r=true from hb] at q
  have hr2:=hr.keep a.keep
  have pm:∀ {H3},Ext H2 H3→(sees t tr _).p H3:=fun x=>(sees t tr _).mono (x2.tr x) p1
  refine sA (pm .rfl') (rKall (rCons (rLv rfl) (rCons (rLv rfl) (rCons (rKall (rCons (rLv rfl) (rCons (rItmE (k:=sK "V") (rLv rfl) rCst .dct (by rw [chgD_btn hb];rfl)) rNil)) sp_statein) rNil))) (sp_shown (n:=n+1) hr2)) fun H3 x3=>?_
  refine sFor2 (u:=pairW) (f:=fun p=>rf p.1) (g:=fun p=>p.2) (fun p=>rfl) rfl (LwI t tr (tput T r.num (turnD d (chgD r v))) (shows r v) H1 fun u w=>[some (shv t tr),some r.leaf,some (.dct (chgD r v)),some (.lst (shownL (loneR r) (.str v.txt) r.sts [])),u,w,none,none,none,none,none,none]) (zs:=shows r v) (R:=Ext H3) (fun Q q=>(zip_w▸rZip (V:=vAll) rfl (fun Q H q=>q.now) (rLv rfl) (by rw [List.length_map];exact Nat.le_trans hr.wl (Nat.le_of_ble_eq_true rfl))).run trivial q) (fun H4 x4=> .mk _ none none rfl a.ok (pm (x3.tr x4)) (.of ((x2.tr x3).tr x4)) rfl fun p hp=>(shows_ok hr2 p hp).2) (fun {x xs l H'} i B N' hN=>?_) fun l H' i=>?_
  ·obtain ⟨T',u,w,rfl,hT',p',c',e',hx⟩:=i
   obtain ⟨hs,d2,hd2⟩:=hx x (.head _)
   obtain ⟨k,s⟩:=x
   obtain ⟨s,rfl⟩:=str_of hs
   have ok:=as_ok (s:=s) (hT'.get hd2)
   have kp:Keeps T' (tput T' k (asD (.str s) d2)):= .put hd2 ok.2
   refine sLay (n:=n+5) h0 p' hT' hd2 rfl (d:=asD (.str s) d2) (rCons (rLv rfl) (rCons (rLv rfl) (rCons (rKall (rCons (v:= .dct d2) (fun Q H q=>sp_fetch_ref rfl hd2 _ H q) (rCons (v:= .dct [(sK "AS",nmv s)]) (fun Q H q=>mk195 ⟨show 1≤sizeMost from Nat.le_of_ble_eq_true rfl,q.now⟩) rNil)) ((show turnD d2 [(sK "AS",nmv s)] =asD (.str s) d2 from turn_one rfl)▸sp_turned (List.nodup_cons.mpr ⟨List.not_mem_nil,List.nodup_nil⟩) (Nat.le_trans (Nat.add_le_add_right (hT'.get hd2).len 1) (by decide)))) rNil))) fun H5 c5 p5=>hN _ _ (.mk _ _ _ rfl (hT'.put hd2 ok.1) p5 (c'.tr c5) ?_ fun p hp=>?_)
   ·rw [← e']
    show _=layW (tput T' k (asD (.str s) ((tget T' k).getD []))) xs
    rw [hd2];rfl
   ·obtain ⟨a,d,h⟩:=hx p (.tail _ hp)
    obtain ⟨d',h,_⟩:=kp _ _ h
    exact ⟨a,d',h⟩
  ·obtain ⟨T',u,w,rfl,hT',p',c',e',hx⟩:=i
   refine q H' ((Chg.of .rfl').tr c') ?_
   rw [show T'=_ from e'] at p'
   exact p'
 ·have q:=q H2 (c1.ex x2)
  rw [show isBt r=false from hb] at q
  exact q ((sees t tr _).mono x2 p1))
end
end Mine
end
section
namespace Mine
open PySem
inductive FormP (T:Tab):Option Int→Dict→Dict→Prop
 | here {d form:Dict}:tget T 1=some d→dlook d (sK "AcroForm") =some (.dct form)→FormP T none d form
 | far {d form:Dict}{k:Int}:tget T 1=some d→dlook d (sK "AcroForm") =some (rf k)→tget T k=some form→FormP T (some k) d form
noncomputable def formN (form:Dict):Dict:=dput form (sK "NeedAppearances") (.bool true)
noncomputable def needT (T:Tab)(pl:Option Int)(d form:Dict):Tab:=match pl with
 | none=>tput T 1 (dput d (sK "AcroForm") (.dct (formN form)))
 | some k=>tput T k (formN form)
section
variable {V:View}{t tr n:Nat}{T:Tab}{pl:Option Int}{d form:Dict}{H:Hp}{E:Hp→Prop}{Q:Po MV}{k:Key}{v:MV}
theorem FormP.at' (h:FormP T pl d form):FormAt T d form:=by
 cases h with
 | here h1 h2=>exact .here h1 h2
 | far h1 h2 h3=>exact .far _ h1 h2 h3
theorem turned1 (hv:isN v=false)(hl:d.length≤800):Rd V (cl (n+1) false E 436 [.dct d, .dct [(k,v)]]) (.dct (dput d k v)):=turn_one hv▸sp_turned (List.nodup_cons.mpr ⟨List.not_mem_nil,List.nodup_nil⟩) (Nat.le_trans (Nat.add_le_add_right hl 1) (by decide))
theorem sp_need (h0:t≠tr)(p:(sees t tr T).p H)(hT:TbOk T)(hf:FormP T pl d form)(hne:form≠ [])(hfd:DOk form)(q:∀H',Chg [t] H H'→(sees t tr (needT T pl d form)).p H'→Q .none H'):cl (n+6) false E 677 [shv t tr] Q H:=in677 (by
 have pm:∀ {H2},Ext H H2→(sees t tr T).p H2:=fun x=>(sees t tr T).mono x p
 have fm:∀ {E:Hp→Prop},Rd (sees t tr T) (cl (n+5) false E 535 [shv t tr]) (.dct form):=sp_form hf.at'
 have l16:=hfd.len
 refine sF0 p (rCmp (rKall (rCons (rLv rfl) rNil) fm) (w:= .dct []) (fun Q H q=>⟨Nat.zero_le _,q.now⟩) fun _ _ q=>⟨hne,rfl,q⟩) fun H1 x1=>sA (pm x1) (v:= .dct (formN form)) (rKall (rCons (rKall (rCons (rLv rfl) rNil) fm) (rCons (v:= .dct [(sK "NeedAppearances", .bool true)]) (fun Q H q=>⟨show 1≤sizeMost from Nat.le_of_ble_eq_true rfl,q.now⟩) rNil)) (turned1 rfl (Nat.le_trans l16 (by decide)))) fun H2 x2=>?_
 have x:=x1.tr x2
 cases hf with
 | here h1 h2=>
  refine sA (pm x) (v:= .dct form) (fun Q H q=>(sp_root (E:=E) h1).run q.1 fun H2 x2=>by
   show Q ((dlook d (sK "AcroForm")).getD .none) H2
   rw [h2];exact q.ex x2) fun H3 x3=>sI (pm (x.tr x3)) (c:=false) (fun Q H q=>q.now) nofun fun _ H4 x4=>?_
  have hd:=hT.get h1
  refine sLay (n:=n+3) h0 (pm ((x.tr x3).tr x4)) hT h1 rfl (rCons (rLv rfl) (rCons (rKall (rCons (rLv rfl) (rCons (rItmE (k:=sK "Root") (X:= .ref tr) (fun Q H q=>q.now) rCst (.ref fun H h=>h.2) rfl) rNil)) (sp_home h1)) (rCons (rKall (rCons (fun Q H q=>sp_root h1 _ H q) (rCons (v:= .dct [(sK "AcroForm", .dct (formN form))]) (fun Q H q=>⟨show 1≤sizeMost from Nat.le_of_ble_eq_true rfl,q.now⟩) rNil)) (turned1 rfl (Nat.le_trans hd.len (by decide)))) rNil))) fun H5 c5 p5=>q H5 ((Chg.of ((x.tr x3).tr x4)).tr c5) p5
 | far h1 h2 h3=>
  refine sA (pm x) (v:=rf _) (fun Q H q=>(sp_root (E:=E) h1).run q.1 fun H2 x2=>by
   show Q ((dlook d (sK "AcroForm")).getD .none) H2
   rw [h2];exact q.ex x2) fun H3 x3=>sT (pm (x.tr x3)) (fun Q H q=>q.now) fun H4 x4=>?_
  refine sLay (n:=n+3) h0 (pm ((x.tr x3).tr x4)) hT h3 rfl (rCons (rLv rfl) (rCons (rKall (rCons (rLv rfl) (rCons (rLv rfl) rNil)) (sp_home h3)) (rCons (rLv rfl) rNil))) fun H5 c5 p5=>q H5 ((Chg.of ((x.tr x3).tr x4)).tr c5) p5)
end
end Mine
end
section
namespace Mine
open PySem
noncomputable def planV (p:Rw × Val):MV:= .tup [p.1.leaf, .dct (chgD p.1 p.2)]
noncomputable def dataE (p:Str × Val):Key × MV:=(.inr p.1,p.2.mv)
noncomputable def dataD (dt:List (Str × Val)):Dict:=dt.map dataE
noncomputable def nameV (p:Str × Val):MV:= .str p.1
noncomputable def wants1 (rs:List Rw)(p:Str × Val):List (Rw × Val):=(rs.filter fun r=>strB r.name p.1).map fun r=>(r,p.2)
noncomputable def wants (rs:List Rw)(dt:List (Str × Val)):List (Rw × Val):=dt.flatMap (wants1 rs)
noncomputable def layAll (T:Tab)(P:List (Rw × Val)):Tab:=P.foldl layR T
noncomputable def allLet (P:List (Rw × Val)):Bool:=P.all fun p=>letB p.1 p.2
structure FormR (T:Tab)(rs:List Rw)(d form:Dict)(ks:List Int)(lo hi:Int):Prop where
 f:FormAt T d form
 fl:dlook form (.inr "Fields") =some (.lst (ks.map rf))
 kl:ks.length≤10
 le:hi - lo≤50
 w:WL (fun lo hi k rs=>Walks T 3 lo hi k .none .none [] rs) lo hi ks rs
 rl:rs.length≤100
 ok:∀r∈rs,RowOk T r
structure DataOk (rs:List Rw)(dt:List (Str × Val)):Prop where
 nd:(dt.map (·.1)).Nodup
 ok:∀p∈dt,p.2∈valAll∧∃r∈rs,r.name=p.1
 ne:dt≠ []
 le:dt.length≤3
section
variable {rs:List Rw}{dt:List (Str × Val)}{T:Tab}{P:List (Rw × Val)}
theorem data_keys:keysV (dataD dt) =dt.map nameV:=by unfold keysV dataD;rw [List.map_map];rfl
theorem data_get (h:(dt.map (·.1)).Nodup){p:Str × Val}(hp:p∈dt):dlook (dataD dt) (.inr p.1) =some p.2.mv:=look_of_mem (by
 have e:(dataD dt).map (·.1) = (dt.map (·.1)).map Sum.inr:=by unfold dataD;rw [List.map_map,List.map_map];rfl
 show ((dataD dt).map (·.1)).Nodup
 rw [e]
 exact List.Pairwise.map _ (fun a b h w=>h (Sum.inr.inj w)) h) (List.mem_map.mpr ⟨p,hp,rfl⟩)
theorem wants_mem {p:Rw × Val}(h:p∈wants rs dt):p.1∈rs∧∃q∈dt,p.1.name=q.1∧p.2=q.2:=by
 obtain ⟨q,hq,h⟩:=List.mem_flatMap.mp h
 obtain ⟨r,hr,rfl⟩:=List.mem_map.mp h
 obtain ⟨h1,h2⟩:=List.mem_filter.mp hr
 exact ⟨h1,q,hq,of_decide_eq_true h2,rfl⟩
theorem wants_len (h:rs.length≤100):(wants rs dt).length≤100 * dt.length:=by
 induction dt with
 | nil=>exact Nat.le_refl _
 | cons p dt ih=>
  show (wants1 rs p ++ wants rs dt).length≤_
  rw [List.length_append,List.length_cons,Nat.mul_succ,Nat.add_comm]
  exact Nat.add_le_add ih (by unfold wants1;rw [List.length_map];exact Nat.le_trans (List.length_filter_le ..) h)
theorem layAll_ok {ks:Int→Prop}:∀ {T:Tab},TbOk T→(∀p∈P,RowOk T p.1∧p.2∈valAll∧∀k,p.1.has k→ks k)→Lays T (layAll T P) ks:=by
 induction P with
 | nil=>exact fun hT _=>⟨hT, .rfl',fun _ _=>rfl⟩
 | cons p P ih=>
  intro T hT h
  obtain ⟨h1,h2,h3⟩:=h p (.head _)
  have a:=layR_ok hT h1 h2
  have a:Lays T (layR T p) ks:=⟨a.ok,a.keep,fun k hk=>a.off k fun w=>hk (h3 k w)⟩
  exact a.tr (ih a.ok fun p hp=>by
   obtain ⟨a1,a2,a3⟩:=h p (.tail _ hp)
   exact ⟨a1.keep a.keep,a2,a3⟩)
theorem allLet_app {P P':List (Rw × Val)}:allLet (P ++ P') = (allLet P && allLet P'):=List.all_append
end
section
variable {K:Kx}{l:Loc}{M:Loc→Hp→Prop}{H:Hp}{b:Cs}{e:Cd MV}{i c:Nat}{v:MV}{acc:List MV}
theorem sAppC (e1:lat l i=some (.ref c))(hc:H[c]?=some (cL acc))(hl:acc.length < sizeMost)(h:∀Q:Po MV,(∀H2,Ext H H2→Q v H2)→e K l Q H)(q:∀H2,Ext H H2→b K M l (H2.set c (cL (acc ++ [v])))):sq (exS (mth false .list .append (lv i) [e])) b K M l H:=by
 show lv i K l (fun u h=>hasKnd .list u h (e K l (fun x=>prim false K.hd .append [u,x] fun _=>b K M l) h)) H
 exact lvE K e1 ⟨_,hc,h _ fun H2 x=>⟨_,x.get hc,hl,q H2 x⟩⟩
theorem sAppE (e1:lat l i=some (.ref c))(hc:H[c]?=some (cL acc))(h:∀Q:Po MV,e K l Q H):sq (exS (mth false .list .append (lv i) [e])) b K M l H:=by
 show lv i K l (fun u h=>hasKnd .list u h (e K l (fun x=>prim false K.hd .append [u,x] fun _=>b K M l) h)) H
 exact lvE K e1 ⟨_,hc,h _⟩
end
end Mine
end
section
namespace Mine
open PySem
inductive FlI (T:Tab)(t tr c:Nat)(H0:Hp)(L:Option MV→Option MV→Loc)(rs:List Rw)(dt:List (Str × Val))(xs:List MV)(l:Loc)(H:Hp):Prop
 | mk (dn:List (Str × Val))(u w:Option MV):Part nameV dt xs dn→l=L u w→(sees t tr T).p H→H[c]?=some (cL ((wants rs dn).map planV))→Ext H0 H→allLet (wants rs dn) =true→FlI T t tr c H0 L rs dt xs l H
inductive FmI (T:Tab)(t tr c:Nat)(H0:Hp)(L:Option MV→Loc)(P0:List (Rw × Val))(v:Val)(rs:List Rw)(xs:List MV)(l:Loc)(H:Hp):Prop
 | mk (dn:List Rw)(w:Option MV):Part Rw.leaf rs xs dn→l=L w→(sees t tr T).p H→H[c]?=some (cL ((P0 ++ dn.map fun r=>(r,v)).map planV))→Ext H0 H→allLet (dn.map fun r=>(r,v)) =true→FmI T t tr c H0 L P0 v rs xs l H
inductive LyI (T0:Tab)(t tr:Nat)(H0:Hp)(L:Option MV→Option MV→Loc)(P:List (Rw × Val))(xs:List (Rw × Val))(l:Loc)(H:Hp):Prop
 | mk (T:Tab)(u w:Option MV):l=L u w→TbOk T→(sees t tr T).p H→Chg [t] H0 H→layAll T xs=layAll T0 P→(∀p∈xs,RowOk T p.1∧p.2∈valAll∧letB p.1 p.2=true)→LyI T0 t tr H0 L P xs l H
section
variable {t tr n:Nat}{T:Tab}{dt:List (Str × Val)}{rs:List Rw}{ks:List Int}{lo hi:Int}{d form:Dict}{pl:Option Int}{H:Hp}{E:Hp→Prop}{Q:Po MV}
theorem sp_fill (h0:t≠tr)(p:(sees t tr T).p H)(hT:TbOk T)(hF:FormR T rs d form ks lo hi)(hP:FormP T pl d form)(haw:∀r∈rs,¬ r.has 1∧∀k,pl=some k→¬ r.has k)(hD:DataOk rs dt)(hfd:DOk form)
  (qt:allLet (wants rs dt) =true→∀H',Chg [t] H H'→(sees t tr (needT (layAll T (wants rs dt)) pl d form)).p H'→Q .none H') (qf:allLet (wants rs dt) =false→∀H',Ext H H'→E H'):cl (n+11) false E 684 [shv t tr, .dct (dataD dt)] Q H:=in684 (sNewL (by
 have dl:(dataD dt).length≤sizeMost:=by unfold dataD;rw [List.length_map];exact Nat.le_trans hD.le (Nat.le_of_ble_eq_true rfl)
 have ct:H.length≠t:=Nat.ne_of_gt (at_lt p.1)
 have cr:H.length≠tr:=Nat.ne_of_gt (at_lt p.2)
 have see_st:∀ {H' xs},(sees t tr T).p H'→(sees t tr T).p (H'.set H.length (cL xs)):=fun h=>⟨at_ne h.1 ct,at_ne h.2 cr⟩
 refine sFor (V:=vAll) (xs:=dt.map nameV) (FlI T t tr H.length H (fun u w=>[some (shv t tr),some (.dct (dataD dt)),some (.ref H.length),u,w,none,none,none,none,none,none]) rs dt) trivial (fun Q H q=>⟨rfl,dl,data_keys▸q.now⟩) (fun H2 x2=> .mk [] none none .start rfl ((sees t tr T).mono (Ext.rfl'.al.tr x2) p) (x2.get at_new) (Ext.rfl'.al.tr x2) rfl) (fun {x xs l H'} i B N' hN=>?_) fun l H' i=>?_
 ·obtain ⟨dn,u,w,a,rfl,p',hc,ex,hb⟩:=i
  obtain ⟨⟨nv,v⟩,rfl,hm,lt,a⟩:=a.next
  obtain ⟨hv,hne⟩:=hD.ok _ hm
  have wl:=wants_len (dt:=dn) hF.rl
  have wm:∀r∈rs.filter (fun r=>strB r.name nv),(r,v)∈wants rs dt:=fun r hr=>List.mem_flatMap.mpr ⟨(nv,v),hm,List.mem_map.mpr ⟨r,hr,rfl⟩⟩
  have fl:(rs.filter fun r=>strB r.name nv).length≤100:=Nat.le_trans (List.length_filter_le ..) hF.rl
  refine sFor (V:=sees t tr T) (xs:=(rs.filter fun r=>strB r.name nv).map Rw.leaf) (FmI T t tr H.length H (fun w=>[some (shv t tr),some (.dct (dataD dt)),some (.ref H.length),some (.str nv),w,none,none,none,none,none,none]) (wants rs dn) v (rs.filter fun r=>strB r.name nv)) p' (rOver (rKall (rCons (rLv rfl) (rCons (rLv rfl) rNil)) (sp_named hF.f hF.fl hF.kl hF.le hF.w hF.rl hne)) (by rw [List.length_map];exact Nat.le_trans fl (Nat.le_of_ble_eq_true rfl))) (fun H2 x2=> .mk [] w .start rfl ((sees t tr T).mono x2 p') (by rw [List.map_nil,List.append_nil];exact x2.get hc) (ex.tr x2) rfl) (fun {x xs l H'} i B N' hN=>?_) fun l H' i=>?_
  ·obtain ⟨dn',w,a',rfl,p',hc,ex,hb'⟩:=i
   obtain ⟨r,rfl,hr,lt',a'⟩:=a'.next
   have hrow:=hF.ok r (List.mem_filter.mp hr).1
   cases hl:letB r v with
   | true=>
    refine sAppC (v:=planV (r,v)) rfl hc ?_ (fun Q' q'=>⟨_,data_get hD.nd hm,sp_change hrow hv _ _ _ p' (fun _=>⟨p',fun H2 x _=>q' H2 x⟩) fun h=>absurd (hl.symm.trans h) (by decide)⟩) fun H2 x2=>hN _ _ ?_
    ·rw [List.length_map,List.length_append,List.length_map]
     exact Nat.lt_of_le_of_lt (Nat.add_le_add (Nat.le_trans wl (Nat.mul_le_mul_left 100 (Nat.le_trans (Nat.le_of_lt lt) hD.le))) (Nat.le_trans (Nat.le_of_lt lt') fl)) (Nat.lt_of_lt_of_le (by decide:100 * 3+100 < 100000) (Nat.le_refl _))
    ·have y:=x2.get hc
     refine .mk (dn' ++ [r]) _ a' rfl (see_st ((sees t tr T).mono x2 p')) ?_ ((ex.tr x2).st (Nat.le_refl _)) ?_
     ·have e:(wants rs dn ++ (dn' ++ [r]).map fun r=>(r,v)).map planV= (wants rs dn ++ dn'.map fun r=>(r,v)).map planV ++ [planV (r,v)]:=by
       simp only [List.map_append,List.map_cons,List.map_nil,List.append_assoc]
      rw [e]
      exact at_set y
     ·rw [List.map_append,allLet_app,hb']
      show (true && (letB r v && true)) =true
      rw [hl];rfl
   | false=>exact sAppE rfl hc fun Q'=>⟨_,data_get hD.nd hm,sp_change hrow hv _ _ _ p' (fun h=>absurd (hl.symm.trans h) (by decide)) fun _=>⟨p',fun H2 x _=>qf (List.all_eq_false.mpr ⟨_,wm r hr,by rw [hl];decide⟩) H2 (ex.tr x)⟩⟩
  ·obtain ⟨dn',w,a',rfl,p',hc,ex,hb'⟩:=i
   have e:wants rs (dn ++ [(nv,v)]) =wants rs dn ++ dn'.map fun r=>(r,v):=by
    unfold wants
    rw [List.flatMap_append,a'.done]
    show _ ++ (wants1 rs (nv,v) ++ []) =_
    rw [List.append_nil];rfl
   exact hN _ _ (.mk (dn ++ [(nv,v)]) _ _ a rfl p' (e▸hc) ex (by rw [e,allLet_app,hb,hb'];rfl))
 ·obtain ⟨dn,u,w,a,rfl,p',hc,ex,hb⟩:=i
  cases a.done
  have wr:∀p∈wants rs dt,RowOk T p.1∧p.2∈valAll∧letB p.1 p.2=true:=fun p hp=>by
   obtain ⟨h1,q,hq,h2,h3⟩:=wants_mem hp
   exact ⟨hF.ok _ h1,h3▸(hD.ok q hq).1,List.all_eq_true.mp hb p hp⟩
  have wl:((wants rs dt).map planV).length≤sizeMost:=by
   rw [List.length_map]
   exact Nat.le_trans (wants_len hF.rl) (Nat.le_trans (Nat.mul_le_mul_left 100 hD.le) (Nat.le_of_ble_eq_true rfl))
  refine sFor2 (u:=planV) (f:=fun p=>p.1.leaf) (g:=fun p=> .dct (chgD p.1 p.2)) (fun _=>rfl) rfl (LyI T t tr (H'.set H.length ⟨.frz, .list ((wants rs dt).map planV)⟩) (fun a b=>[some (shv t tr),some (.dct (dataD dt)),some (.ref H.length),u,a,b,none,none,none,none,none]) (wants rs dt)) (zs:=wants rs dt) (R:=fun H2=>H2=H'.set H.length ⟨.frz, .list ((wants rs dt).map planV)⟩) (fun Q q=>⟨_,_,hc,trivial,wl,q _ rfl⟩) (fun H2 e=>?_) (fun {x xs l H'} i B N' hN=>?_) fun l H' i=>?_
  ·subst e
   exact .mk T _ _ rfl hT ⟨at_ne p'.1 ct,at_ne p'.2 cr⟩ (.of .rfl') rfl wr
  ·obtain ⟨T',_,_,rfl,hT',p2,c2,e2,hx⟩:=i
   obtain ⟨h1,h2,h3⟩:=hx x (.head _)
   have a:=layR_ok hT' h1 h2
   exact sp_laych h0 p2 hT' h1 h2 h3 fun H2 c3 p3=>hN _ _ (.mk _ _ _ rfl a.ok p3 (c2.tr c3) e2 fun p hp=>by
    obtain ⟨a1,a2,a3⟩:=hx p (.tail _ hp)
    exact ⟨a1.keep a.keep,a2,a3⟩)
  ·obtain ⟨T',_,_,rfl,hT',p2,c2,e2,hx⟩:=i
   have e2:T'=layAll T (wants rs dt):=e2
   have a:=layAll_ok (ks:=fun k=>∃r∈rs,r.has k) (P:=wants rs dt) hT fun p hp=>⟨(wr p hp).1,(wr p hp).2.1,fun k h=>⟨_,(wants_mem hp).1,h⟩⟩
   rw [← e2] at a
   have off:∀k,(∀r∈rs,¬ r.has k)→tget T' k=tget T k:=fun k h=>a.off k fun ⟨r,hr,w⟩=>h r hr w
   have o1:=off 1 fun r hr=>(haw r hr).1
   have hP2:FormP T' pl d form:=by
    cases hP with
    | here h1 h2=>exact .here (o1.trans h1) h2
    | far h1 h2 h3=>exact .far (o1.trans h1) h2 ((off _ fun r hr=>(haw r hr).2 _ rfl).trans h3)
   have w0:0 < ((wants rs dt).map planV).length:=by
    rw [List.length_map]
    cases dt with
    | nil=>exact absurd rfl hD.ne
    | cons x dt=>
     obtain ⟨r,hr,e⟩:=(hD.ok x (.head _)).2
     exact List.length_pos_iff.mpr (List.ne_nil_of_mem (List.mem_flatMap.mpr ⟨x, .head _,List.mem_map.mpr ⟨r,List.mem_filter.mpr ⟨hr,decide_eq_true e⟩,rfl⟩⟩))
   refine ⟨_,c2.get (at_set hc) (fun h=>ct (List.mem_singleton.mp h)),wl,bT (decide_eq_true (Int.ofNat_lt.mpr w0)) (sp_need h0 p2 hT' hP2 (fun h=>by rw [h] at hF;cases hF.fl) hfd fun H2 c3 p3=>qt hb H2 ((((Chg.of ex).st (.inr (Nat.le_refl _))).tr c2).tr c3) (e2▸p3))⟩))
theorem sp_putvalue (h0:t≠tr)(p:(sees t tr T).p H)(hT:TbOk T)(hF:FormR T rs d form ks lo hi)(hP:FormP T pl d form)(haw:∀r∈rs,¬ r.has 1∧∀k,pl=some k→¬ r.has k){x:Str × Val}(hD:DataOk rs [x])(hfd:DOk form)
  (qt:allLet (wants rs [x]) =true→∀H',Chg [t] H H'→(sees t tr (needT (layAll T (wants rs [x])) pl d form)).p H'→Q .none H') (qf:allLet (wants rs [x]) =false→∀H',Ext H H'→E H'):cl (n+12) false E 691 [shv t tr, .str x.1,x.2.mv] Q H:=in691 ⟨Nat.le_of_ble_eq_true rfl,sp_fill h0 p hT hF hP haw hD hfd qt qf⟩
end
end Mine
end
section
namespace Mine
open PySem
noncomputable abbrev Hs:=List (Int × Nat)
noncomputable def headE (p:Int × Nat):Key × MV:=(.inl p.1, .ref p.2)
noncomputable def headsE (hs:Hs):Dict:=hs.map headE
structure HAt (hs:Hs)(T:Tab)(H:Hp):Prop where
 keys:hs.map (·.1) =T.map (·.1)
 nk:(hs.map (·.1)).Nodup
 na:(hs.map (·.2)).Nodup
 at':∀p∈hs,∃d,tget T p.1=some d∧H[p.2]?=some (cD d)
theorem heads_nd {hs:Hs}(h:(hs.map (·.1)).Nodup):NoDupK (headsE hs):=by
 have e:(headsE hs).map (·.1) = (hs.map (·.1)).map Sum.inl:=by unfold headsE;rw [List.map_map,List.map_map];rfl
 show ((headsE hs).map (·.1)).Nodup
 rw [e]
 exact List.Pairwise.map _ (fun a b h w=>h (Sum.inl.inj w)) h
theorem heads_get {hs:Hs}(h:(hs.map (·.1)).Nodup){p:Int × Nat}(hp:p∈hs):dlook (headsE hs) (.inl p.1) =some (.ref p.2):=look_of_mem (heads_nd h) (List.mem_map.mpr ⟨p,hp,rfl⟩)
section
variable {hs:Hs}{T:Tab}{H H':Hp}{k:Int}{d d':Dict}
theorem HAt.mem (h:HAt hs T H)(hd:tget T k=some d):∃a,(k,a)∈hs∧dlook (headsE hs) (.inl k) =some (.ref a)∧H[a]?=some (cD d):=by
 have hk:k∈hs.map (·.1):=by rw [h.keys];exact List.mem_map.mpr ⟨_,tget_mem hd,rfl⟩
 obtain ⟨p,hp,rfl⟩:=List.mem_map.mp hk
 obtain ⟨d2,h1,h2⟩:=h.at' p hp
 cases h1.symm.trans hd
 exact ⟨p.2,hp,heads_get h.nk hp,h2⟩
theorem HAt.to (h:HAt hs T H)(e:∀p∈hs,∀c,H[p.2]?=some c→H'[p.2]?=some c):HAt hs T H':=⟨h.keys,h.nk,h.na,fun p hp=>by
 obtain ⟨d,h1,h2⟩:=h.at' p hp
 exact ⟨d,h1,e p hp _ h2⟩⟩
theorem HAt.ex (h:HAt hs T H)(e:Ext H H'):HAt hs T H':=h.to fun _ _ _ h=>e.get h
theorem HAt.chg {S:List Nat}(h:HAt hs T H)(e:Chg S H H')(hS:∀p∈hs,p.2∉S):HAt hs T H':=h.to fun p hp _ h=>e.get h (hS p hp)
theorem nodup_inj {α β:Type}{f:α→β}{l:List α}(h:(l.map f).Nodup){p q:α}(hp:p∈l)(hq:q∈l)(e:f p=f q):p=q:=by
 induction l with
 | nil=>cases hp
 | cons x l ih=>
  obtain ⟨h1,h2⟩:=List.nodup_cons.mp h
  rcases List.mem_cons.mp hp with rfl | hp2
  ·rcases List.mem_cons.mp hq with rfl | hq2
   ·rfl
   ·exact absurd (List.mem_map.mpr ⟨q,hq2,e.symm⟩) h1
  ·rcases List.mem_cons.mp hq with rfl | hq2
   ·exact absurd (List.mem_map.mpr ⟨p,hp2,e⟩) h1
   ·exact ih h2 hp2 hq2
theorem HAt.set {a:Nat}(h:HAt hs T H)(hp:(k,a)∈hs)(hd:tget T k=some d):HAt hs (tput T k d') (H.set a (cD d')):=⟨by rw [tput_keys hd];exact h.keys,h.nk,h.na,fun q hq=>by
 obtain ⟨d2,h1,h2⟩:=h.at' q hq
 by_cases e:k=q.1
 ·have e2:(k,a) =q:=nodup_inj (f:=(·.1)) h.nk hp hq e
  subst e2
  exact ⟨d',by rw [tget_tput,if_pos rfl],at_set h2⟩
 ·have ne:a≠q.2:=fun w=>e (congrArg (·.1) (nodup_inj (f:=(·.2)) h.na hp hq w))
  exact ⟨d2,by rw [tget_tput,if_neg e];exact h1,at_ne h2 ne⟩⟩
end
theorem dputs_new {l:Dict}:∀ {es:Dict},NoDupK (es ++ l)→dputs es l=es ++ l:=by
 induction l with
 | nil=>exact fun {es} _=>(List.append_nil es).symm
 | cons e l ih=>
  intro es h
  have no:dlook es e.1=none:=look_none.mpr fun x hx w=>by
   have h:((es ++ e::l).map (·.1)).Nodup:=h
   rw [List.map_append] at h
   exact (List.nodup_append.mp h).2.2 x.1 (List.mem_map.mpr ⟨x,hx,rfl⟩) e.1 (.head _) w
  show dputs (dput es e.1 e.2) l=_
  rw [dput_new no,show (e.1,e.2) =e from rfl]
  have a:(es ++ [e]) ++ l=es ++ e::l:=List.append_assoc ..
  rw [ih (a▸h),a]
theorem each_inv {τ:Type}{f:MV→Po (List τ)→Hp→Prop}(I:List MV→List τ→Hp→Prop)(hf:∀ {x xs acc H},I (x::xs) acc H→∀Q:Po (List τ),(∀ys H',I xs (acc ++ ys) H'→Q ys H')→f x Q H){xs:List MV}:∀ {H acc}{Q:Po (List τ)},I xs acc H→(∀ys H',I [] (acc ++ ys) H'→Q ys H')→eachM f xs Q H:=by
 induction xs with
 | nil=>exact fun {H acc Q} i q=>q [] H (by rw [List.append_nil];exact i)
 | cons x xs ih=>exact fun {H acc Q} i q=>hf i _ fun ys H' i'=>ih i' fun zs H2 i2=>q (ys ++ zs) H2 (by rw [← List.append_assoc];exact i2)
noncomputable def tupV (p:Int × Nat):MV:= .tup [.int p.1, .ref p.2]
inductive HeI (T:Tab)(t tr:Nat)(H0:Hp)(xs acc:List MV)(H:Hp):Prop
 | mk (dn:Tab)(hs:Hs):Part keyI T xs dn→acc=hs.map tupV→hs.map (·.1) =dn.map (·.1)→(hs.map (·.2)).Nodup→(∀p∈hs,∃d,tget T p.1=some d∧H[p.2]?=some (cD d))→(∀p∈hs,H0.length≤p.2)→(sees t tr T).p H→Ext H0 H→HeI T t tr H0 xs acc H
theorem sp_lheads {t tr n:Nat}{T:Tab}{H:Hp}{E:Hp→Prop}{Q:Po MV}(p:(sees t tr T).p H)(hT:TbOk T)(q:∀hs H',HAt hs T H'→Ext H H'→(∀p∈hs,H.length≤p.2)→Q (.dct (headsE hs)) H'):cl (n+2) false E 786 [shv t tr] Q H:=in786 (by
 have tl:∀ {f:Int × Dict→MV},(T.map f).length≤sizeMost:=fun {f}=>by rw [List.length_map];exact Nat.le_trans (Nat.le_of_lt hT.len) (Nat.le_of_ble_eq_true rfl)
 have nums:Rd (sees t tr T) (cl (n+1) false E 360 [shv t tr]) (.lst (T.map keyI)):=by
  have:=sp_numbers (V:=sees t tr T) (n:=n) (hd:=false) (E:=E) (Y:= .ref tr) (.ref fun H h=>h.1) hT.num hT.len
  rw [List.map_map] at this
  exact this
 refine nums.run p fun H1 x1=>⟨tl,each_inv (HeI T t tr H) (fun {x xs acc H'} i Q q=>?_) (.mk [] [] .start rfl rfl List.nodup_nil nofun nofun ((sees t tr T).mono x1 p) x1) fun ys H2 i=>?_⟩
 ·obtain ⟨dn,hs,a,rfl,e,na,hat,hge,p',ex⟩:=i
  obtain ⟨⟨k,d⟩,rfl,hm,lt,a⟩:=a.next
  have hk:=tget_of_mem hT.nd hm
  have dl:=(hT.get hk).len
  refine ⟨_,p'.1,_,row_at hT.nd hm,1,rfl,by decide,_,rfl,rfl,Nat.le_trans dl (Nat.le_of_ble_eq_true rfl),q _ _ (.mk (dn ++ [(k,d)]) (hs ++ [(k,H'.length)]) a (by rw [List.map_append];rfl) (by rw [List.map_append,List.map_append,e];rfl) ?_ (fun p hp=>?_) (fun p hp=>?_) ((sees t tr T).mono Ext.rfl'.al p') ex.al)⟩
  ·rw [List.map_append]
   refine List.nodup_append.mpr ⟨na,List.nodup_cons.mpr ⟨List.not_mem_nil,List.nodup_nil⟩,fun x hx y hy w=>?_⟩
   obtain ⟨p,hp,rfl⟩:=List.mem_map.mp hx
   obtain ⟨d,_,h⟩:=hat p hp
   exact Nat.lt_irrefl _ (Nat.lt_of_lt_of_eq (at_lt h) ((w.trans (List.mem_singleton.mp hy)).symm))
  ·rcases List.mem_append.mp hp with hp | hp
   ·obtain ⟨d,h1,h2⟩:=hat p hp
    exact ⟨d,h1,at_app h2⟩
   ·rw [List.mem_singleton.mp hp];exact ⟨d,hk,at_new⟩
  ·rcases List.mem_append.mp hp with hp | hp
   ·exact hge p hp
   ·rw [List.mem_singleton.mp hp];exact ex.le
 ·obtain ⟨dn,hs,a,e0,e,na,hat,hge,p',ex⟩:=i
  have e0:ys=hs.map tupV:=e0
  cases a.done
  have nk:(hs.map (·.1)).Nodup:=e▸hT.nd
  have hl:hs.length < 64:=by
   have:=congrArg List.length e
   rw [List.length_map,List.length_map] at this
   rw [this];exact hT.len
  have hl1:ys.length≤sizeMost:=by rw [e0,List.length_map];exact Nat.le_trans (Nat.le_of_lt hl) (Nat.le_of_ble_eq_true rfl)
  have hl2:(headsE hs).length≤sizeMost:=by unfold headsE;rw [List.length_map];exact Nat.le_trans (Nat.le_of_lt hl) (Nat.le_of_ble_eq_true rfl)
  have dn:dputs [] (headsE hs) =headsE hs:=dputs_new (es:=[]) (heads_nd nk)
  exact ⟨hl1,rfl,headsE hs,by rw [e0];unfold headsE;rw [List.map_map];rfl,hl2,by rw [dn];exact hl2,by rw [dn];exact q hs H2 ⟨e,nk,na,hat⟩ ex hge⟩)
end Mine
end
section
namespace Mine
open PySem
noncomputable def lsN:Cd MV:=(lcp false (icomp [none,none] (.one 1) (iover (itm (itm (mtd 375 311 (lv 0) [(lv 4)]) (cst (.str "AP"))) (cst (.str "N")))) (tAnd (tCmp .ne (lv 1) (cst (.str "Off"))) yes) (ione (lv 1))))
section
variable {V:View}{t tr n:Nat}{E:Hp→Prop}{T:Tab}{r:Rw}{s:Str}{K:Kx}{l:Loc}{Q:Po MV}{i:Nat}{e:Cd MV}{B:Bool}
theorem rOnN {w:Int}{d:Dict}{st:List String}{b1 b2 b3:Option MV}{l:Loc}(hw:tget T w=some d)(hd:ApOk d st){B:Loc→Hp→Prop}:Rd (sees t tr T) (lsN ((KF (n+1) false E Q).loop B) (some (shv t tr) ::b1::b2::b3::some (rf w) ::l)) (.lst ((onS st).map strV)):=fun Q' H q=>by
 obtain ⟨l3,so,on⟩:=sub_ok st hd.mem
 have ld:(stD st).length≤sizeMost:=by unfold stD;rw [List.length_map];exact Nat.le_trans l3 (Nat.le_of_ble_eq_true rfl)
 refine (sp_fetch_ref rfl hw).run q.1 fun H2 x2=>⟨_,hd.ap,_,rfl,rfl,ld,?_⟩
 rw [keys_st]
 refine (each_map (V:=vAll) (u:=strV) (g:=fun k:String=>bif k != "Off" then [strV k] else []) fun k hk Q H q=>?_).run trivial fun H5 x5=>?_
 ·cases h:k != "Off" with
  | true=>rw [h] at q;exact bT ((on k hk).trans h) q.now
  | false=>rw [h] at q;exact bF ((on k hk).trans h) q.now
 ·rw [flat_if]
  exact ⟨by rw [List.length_map];exact Nat.le_trans (List.length_filter_le ..) (Nat.le_trans l3 (Nat.le_of_ble_eq_true rfl)),q.ex (x2.tr x5)⟩
theorem okN:∀a b c:Bool,(a && (!(b && (c && true)) && true)) = (a && !(b && c)):=by decide
theorem sp_lstates (hr:RowOk T r):Rd (sees t tr T) (cl (n+4) false E 766 [shv t tr,r.row, .str s]) (.lst (shownL (loneR r) (.str s) r.sts [])):=fun Q H q=>in766 (sNewL (by
 have pm:∀ {H2},Ext H H2→(sees t tr T).p H2:=fun x=>(sees t tr T).mono x q.1
 have wl:(r.wids.map rf).length≤sizeMost:=by rw [List.length_map];exact Nat.le_trans hr.wl (Nat.le_of_ble_eq_true rfl)
 refine sFor (V:=vAll) (xs:=r.wids.map rf) (fun xs l H'=>∃x,ShI T H.length H (fun u w=>[some (shv t tr),some r.row,some (.str s),some (.ref H.length),u,x,w,none,none]) (loneR r) s r.sts xs l H') trivial (rOver (rTup (k:=4) (rLv rfl) (by decide) rfl) wl) (fun H2 x2=>⟨none, .mk r.wids r.sts [] none none rfl hr.sts rfl (x2.get at_new) nofun (Ext.rfl'.al.tr x2) rfl (by rw [List.length_nil,Nat.zero_add];exact hr.wl)⟩) (fun {x xs l H'} i B N' hN=>?_) fun l H' i=>?_
 ·obtain ⟨x0,ws,sts,acc,u,w,e,hw,rfl,hc,ha,ex,eq,hl⟩:=i
  cases ws with
  | nil=>cases e
  | cons wd ws=>
   cases sts with
   | nil=>exact hw.elim
   | cons st sts=>
    obtain ⟨⟨d,d1,d2⟩,hw⟩:=hw
    obtain ⟨rfl,rfl⟩:=List.cons.inj e
    rw [List.length_cons] at hl
    have al:acc.length < sizeMost:=Nat.lt_of_lt_of_le (Nat.lt_of_lt_of_le (Nat.lt_add_of_pos_right (Nat.succ_pos _)) hl) (Nat.le_of_ble_eq_true rfl)
    refine sA (pm ex) (rOnN (n:=n+2) d1 d2) fun H1 x1=>sA (V:=vAll) trivial (v:= .bool (loneR r)) (rOf (rAnd (rTo (rCmp (v:= .str (kindK r.w r.f).s) (rKall (rCons (rTup (k:=3) (rLv rfl) (by decide) rfl) rNil) (sp_lkind hr.ft hr.ff)) rCst fun _ _ q=>q)) fun _=>rTo (rNot (c:=fbit r.f 26) fun Q' H q=>⟨3,rfl,by decide,_,rfl,sp_lflag (p:=26) hr.ff (by decide) _ H q⟩))) fun H2 x2=>?_
    have p2:(both (sees t tr T) (cellV H.length (cL acc))).p H2:=⟨pm ((ex.tr x1).tr x2),(x1.tr x2).get hc⟩
    refine sApp (V:=both (sees t tr T) (cellV H.length (cL acc))) rfl p2 p2.2 al (rIf (rAnd (rIn (rLv rfl) (rLv rfl) (str_ok on_all (.inl rfl))) fun _=>rAnd (rNot (rAnd (rTv rfl) fun _=>rAnd (rInR (rLv rfl) rfl (fun H h=>h.2) (str_ok ha (.inl rfl))) fun _=>rYes)) fun _=>rYes) (fun _=>rLv rfl) fun _=>rCst) fun H3 x3=>hN _ _ ⟨_, .mk ws sts _ _ _ rfl hw rfl (at_set (x3.get p2.2)) (fun y hy=>?_) ((((ex.tr x1).tr x2).tr x3).st (Nat.le_refl _)) ?_ ?_⟩
    ·rw [okN] at hy
     rcases List.mem_append.mp hy with hy | hy
     ·exact ha y hy
     ·rw [List.mem_singleton.mp hy];exact next_str (lone:=loneR r)
    ·rw [okN];exact eq
    ·rw [List.length_append,List.length_singleton,Nat.add_right_comm];exact hl
 ·obtain ⟨x0,ws,sts,acc,u,w,e,hw,rfl,hc,ha,ex,eq,hl⟩:=i
  cases ws with
  | cons wd ws=>cases e
  | nil=>
   cases sts with
   | cons st sts=>exact hw.elim
   | nil=>
    refine sFrz rfl hc ?_
    rw [show acc=shownL (loneR r) (.str s) r.sts [] from eq.symm]
    exact q.ex (ex.st (Nat.le_refl _))))
end
end Mine
end
section
namespace Mine
open PySem
noncomputable def llBt:Cs:=(sq (ixS (lv 4) (cst (.str "V")) (kall 195 [(lv 3)])) (sq (forS (.many [6,7]) (izip (itm (lv 1) (cst (.int 4))) (kall 766 [(lv 2),(lv 1),(lv 3)])) (sq (ixS (itm (lv 0) (fd 266 0 (lv 6))) (cst (.str "AS")) (kall 195 [(lv 7)])) skp)) skp))
noncomputable def llTx:Cs:=(sq (ixS (lv 4) (cst (.str "V")) (kall 217 [(blt false .bytes [(lcp false (icomp [none,none,none] (.one 1) (iover (lv 3)) yes (ione (blt false .ord [(lv 1)]))))])])) skp)
noncomputable def llCh:Cs:=(sq (asS (.one 8) (tIf (tv (isC .lst (lv 3))) (lv 3) (lstC false [(lv 3)]))) (sq (asS (.one 9) (lcp false (icomp [none,none,none,none] (.one 1) (iover (lv 8)) yes (ione (kall 217 [(blt false .bytes [(lcp false (icomp [none,none,none] (.one 1) (iover (lv 1)) yes (ione (blt false .ord [(lv 1)]))))])]))))) (sq (ixS (lv 4) (cst (.str "V")) (tIf (tv (isC .lst (lv 3))) (lv 9) (itm (lv 9) (cst (.int 0))))) (sq (exS (mth false .dict .dpop (lv 4) [(cst (.str "I")),(cst .none)])) (sq (ifS (tNot (tv (kall 744 [(itm (lv 1) (cst (.int 3))),(cst (.int 18))]))) (sq (asS (.one 10) (kall 776 [(itm (lv 1) (cst (.int 3)))])) (sq (ixS (lv 4) (cst (.str "I")) (blt false .sorted [(lcp false (icomp [none,none,some 10] (.one 1) (iover (lv 8)) yes (ione (mth false .list .index (lv 2) [(lv 1)]))))])) skp)) skp) skp)))))
section
variable {V:View}{K:Kx}{l:Loc}{M:Loc→Hp→Prop}{H:Hp}{b:Cs}{e o:Cd MV}{i a:Nat}{v:MV}{d:Dict}{k:String}{s:Str}
theorem sIx (p:V.p H)(he:Rd V (e K l) v)(ho:Rd V (o K l) (.ref a))(hc:H[a]?=some (cD d))(hl:d.length < sizeMost)(q:∀H2,Ext H H2→b K M l (H2.set a (cD (dput d (sK k) v)))):sq (ixS o (cst (.str k)) e) b K M l H:=he.run p fun H1 x1=>ho.run (V.mono x1 p) fun H2 x2=>⟨_,(x1.tr x2).get hc,hl,q H2 (x1.tr x2)⟩
theorem sPop0 (hd:K.hd=false)(e1:lat l i=some (.ref a))(hc:H[a]?=some (cD d))(hl:d.length≤sizeMost)(hn:dlook d (sK k) =none)(q:b K M l H):sq (exS (mth false .dict .dpop (lv i) [cst (.str k),cst .none])) b K M l H:=by
 show lv i K l (fun u h=>hasKnd .dict u h (prim false K.hd .dpop [u, .str k, .none] (fun _=>b K M l) h)) H
 exact lvE K e1 ⟨_,hc,hd,_,hc,hl,trivial,popD_of (fun y hy=>absurd (hn.symm.trans hy) (by intro w;cases w)) fun _=>q⟩
theorem rOct (hd:K.hd=false)(h:Rd V (e K l) (.str s))(hs:PlainT s)(hk:∀ {Q:Po MV} {H},Q (sg (octB s)) H→K.cl K.hd K.E 217 [.bytes (octB s)] Q H):Rd V (kall 217 [(blt false .bytes [(lcp false (icomp [none,none,none] (.one 1) (iover e) yes (ione (blt false .ord [(lv 1)]))))])] K l) (sg (octB s)):=fun Q H q=>h _ H ⟨q.1,fun H2 x2 p2=>⟨hd,fun c hc=>Nat.lt_of_lt_of_le (hs.1 c hc).2 (by decide),Nat.le_trans hs.2 (Nat.le_of_ble_eq_true rfl),(each_map (V:=V) (u:=chrV) (g:=fun c:Nat=>[natV c]) fun c hc Q H q=>⟨hd,c,rfl,q.now⟩).run p2 fun H3 x3=>by
 have lm:(s.cps.toList.map natV).length≤sizeMost:=by rw [List.length_map];exact Nat.le_trans hs.2 (Nat.le_of_ble_eq_true rfl)
 rw [flat_one]
 exact ⟨lm,hd,octB s,oct_map hs,by unfold octB;rw [List.length_map];exact Nat.le_trans hs.2 (Nat.le_of_ble_eq_true rfl),hk (q.ex (x2.tr x3))⟩⟩⟩
end
structure HwI (hs:Hs)(t tr:Nat)(T Tf:Tab)(H:Hp):Prop where
 see:(sees t tr Tf).p H
 h:HAt hs T H
 tb:TbOk T
 nt:∀p∈hs,p.2≠t∧p.2≠tr
section
variable {hs:Hs}{t tr n:Nat}{T Tf:Tab}{H H':Hp}{k:Int}{a:Nat}{d d':Dict}{r:Rw}{v:Val}{E:Hp→Prop}{Q:Po MV}{M:Loc→Hp→Prop}{L:List (Option MV)}{w4 w5:Option MV}
theorem HwI.ex (i:HwI hs t tr T Tf H)(e:Ext H H'):HwI hs t tr T Tf H':=⟨(sees t tr Tf).mono e i.see,i.h.ex e,i.tb,i.nt⟩
theorem HwI.put (i:HwI hs t tr T Tf H)(hp:(k,a)∈hs)(hd:tget T k=some d)(hd':DOk d'):HwI hs t tr (tput T k d') Tf (H.set a (cD d')):=⟨⟨at_ne i.see.1 (i.nt _ hp).1,at_ne i.see.2 (i.nt _ hp).2⟩,i.h.set hp hd,i.tb.put hd hd',i.nt⟩
theorem len_lt (h:DOk d):d.length < sizeMost:=Nat.lt_of_le_of_lt h.len (Nat.lt_of_lt_of_le (by decide:16 < 100000) (Nat.le_refl _))
inductive LvI (hs:Hs)(t tr:Nat)(T0 Tf:Tab)(all:List (Int × MV))(S:List Nat)(H0:Hp)(L:Option MV→Option MV→Loc)(xs:List (Int × MV))(l:Loc)(H:Hp):Prop
 | mk (T:Tab)(u w:Option MV):l=L u w→HwI hs t tr T Tf H→Chg S H0 H→layW T xs=layW T0 all→(∀p∈xs,isStr p.2=true∧∃d,tget T p.1=some d)→LvI hs t tr T0 Tf all S H0 L xs l H
theorem in_snd {hs:Hs}(h:(k,a)∈hs):a∈hs.map (·.2):=List.mem_map.mpr ⟨_,h,rfl⟩
theorem ll_bt (i:HwI hs t tr T Tf H)(hr:RowOk T r)(hrf:RowOk Tf r)(hv:v.mv= .str v.txt)(hb:isBt r=true)(hd:tget T r.num=some d)(m:(r.num,a)∈hs)(hc:H[a]?=some (cD d))
  (q:∀l H',HwI hs t tr (layR T (r,v)) Tf H'→Chg (hs.map (·.2)) H H'→M l H'):llBt (KF (n+4) false E Q) M [some (.dct (headsE hs)),some r.row,some (shv t tr),some v.mv,some (.ref a),w4,none,none,none,none,none,none,none,none,none,none,none,none,none,none,none,none] H:=by
 have ok:=(i.tb.get hd).put (k:=sK "V") (v:=nmv v.txt) (inK (by decide)) (.name _)
 unfold layR at q
 rw [hb,chgD_btn hb,hd] at q
 rw [hv]
 refine sIx (V:=vAll) (v:=nmv v.txt) trivial (fun Q H q=>mk195 q.now) (rLv rfl) hc (len_lt (i.tb.get hd)) fun H1 x1=>?_
 have i1:=(i.ex x1).put m hd ok
 have k1:Keeps T (tput T r.num (dput d (sK "V") (nmv v.txt))):= .put hd (put_other v_ap.1)
 have c1:Chg (hs.map (·.2)) H (H1.set a (cD (dput d (sK "V") (nmv v.txt)))):=(Chg.of x1).st (.inl (in_snd m))
 refine sFor2 (u:=pairW) (f:=fun p=>rf p.1) (g:=fun p=>p.2) (fun p=>rfl) rfl (LvI hs t tr (tput T r.num (dput d (sK "V") (nmv v.txt))) Tf (shows r v) (hs.map (·.2)) H fun u w=>[some (.dct (headsE hs)),some r.row,some (shv t tr),some (.str v.txt),some (.ref a),w4,u,w,none,none,none,none,none,none,none,none,none,none,none,none,none,none]) (zs:=shows r v) (R:=Ext _) (fun Q q=>(zip_w▸rZip (V:=sees t tr Tf) rfl (rTup (k:=4) (rLv rfl) (by decide) rfl) (rKall (rCons (rLv rfl) (rCons (rLv rfl) (rCons (rLv rfl) rNil))) (sp_lstates hrf)) (by rw [List.length_map];exact Nat.le_trans hr.wl (Nat.le_of_ble_eq_true rfl))).run i1.see q) (fun H2 x2=> .mk _ none none rfl (i1.ex x2) (c1.ex x2) rfl fun p hp=>(shows_ok (hr.keep k1) p hp).2) (fun {x xs l H'} i B N' hN=>?_) fun l H' i=>?_
 ·obtain ⟨T',u,w,rfl,i',c',e',hx⟩:=i
  obtain ⟨hs1,d2,hd2⟩:=hx x (.head _)
  obtain ⟨k,s⟩:=x
  obtain ⟨s,rfl⟩:=str_of hs1
  obtain ⟨a2,m2,g2,c2⟩:=i'.h.mem hd2
  have ok:=as_ok (s:=s) (i'.tb.get hd2)
  have kp:Keeps T' (tput T' k (asD (.str s) d2)):= .put hd2 ok.2
  refine sIx (V:=vAll) (v:=nmv s) trivial (fun Q H q=>mk195 q.now) (rItmE (k:= .inl k) (rLv rfl) (fun Q H q=>q.now) .dct g2) c2 (len_lt (i'.tb.get hd2)) fun H3 x3=>hN _ _ (.mk _ _ _ rfl ((i'.ex x3).put m2 hd2 ok.1) ((c'.ex x3).st (.inl (in_snd m2))) ?_ fun p hp=>?_)
  ·rw [← e']
   show _=layW (tput T' k (asD (.str s) ((tget T' k).getD []))) xs
   rw [hd2];rfl
  ·obtain ⟨a,d,h⟩:=hx p (.tail _ hp)
   obtain ⟨d',h,_⟩:=kp _ _ h
   exact ⟨a,d',h⟩
 ·obtain ⟨T',u,w,rfl,i',c',e',hx⟩:=i
  rw [show T'=_ from e'] at i'
  exact q _ H' i' c'
theorem ll_tx (i:HwI hs t tr T Tf H)(hv:PlainT v.txt)(hm:v.mv= .str v.txt)(hb:isBt r=false)(hk:kindK r.w r.f= .text)(hd:tget T r.num=some d)(m:(r.num,a)∈hs)(hc:H[a]?=some (cD d))
  (q:∀l H',HwI hs t tr (layR T (r,v)) Tf H'→Chg (hs.map (·.2)) H H'→M l H'):llTx (KF (n+4) false E Q) M [some (.dct (headsE hs)),some r.row,some (shv t tr),some v.mv,some (.ref a),w4,none,none,none,none,none,none,none,none,none,none,none,none,none,none,none,none] H:=by
 unfold layR chgD at q
 rw [hb,hk,hd] at q
 rw [hm]
 exact sIx (V:=vAll) trivial (rOct rfl (rLv rfl) hv fun q=>mk217 q) (rLv rfl) hc (len_lt (i.tb.get hd)) fun H1 x1=>q _ _ ((i.ex x1).put m hd ((i.tb.get hd).put (inK (by decide)) (.str _))) ((Chg.of x1).st (.inl (in_snd m)))
end
end Mine
end
section
namespace Mine
open PySem
theorem tput_tput {T:Tab}{k:Int}{d d':Dict}:tput (tput T k d) k d'=tput T k d':=by
 induction T with
 | nil=>exact tput_t (p:=(k,d)) rfl
 | cons p T ih=>
  by_cases q:p.1=k
  ·rw [tput_t q,tput_t q];exact tput_t (p:=(k,d)) rfl
  ·rw [tput_f q,tput_f q,tput_f q,ih]
theorem valV_some {v:Val}:isN (valV v) =false:=by unfold valV;cases v.isL <;> rfl
theorem turn_c1 {d:Dict}{op:Nat}{v:Val}:turnD d (choiceD op false v) =dput (dput d (sK "V") (valV v)) (sK "I") (placesV op v.texts):=by
 show turn1 (turn1 d (sK "V",valV v)) (sK "I",placesV op v.texts) =_
 unfold turn1
 rw [valV_some];rfl
theorem turn_c0 {d:Dict}{op:Nat}{v:Val}(h:dlook d (sK "I") =none):turnD d (choiceD op true v) =dput d (sK "V") (valV v):=by
 show turn1 (turn1 d (sK "V",valV v)) (sK "I", .none) =_
 unfold turn1
 rw [valV_some]
 exact ddel_no ((put_other (show sK "V"≠sK "I" by decide)).trans h)
theorem choice_ok {f:Int}{op:Nat}{v:Val}(h:choiceOk f (exs op) v=true):v.items=v.texts.map .str∧(fbit f 18=false→∀x∈v.items,memB x (exs op) =true)∧v≠ .n:=by
 unfold choiceOk at h
 cases hb:v.isL && (fbit f 18 || !fbit f 22) with
 | true=>rw [hb] at h;cases h
 | false=>
  rw [hb] at h
  have h:okList (exs op) (fbit f 18 && fbit f 19) [] v.items=true:=h
  exact ⟨ok_texts h,fun w=>by rw [w] at h;exact okList_in h,fun w=>by rw [w] at h;cases h⟩
section
variable {hs:Hs}{t tr n:Nat}{T Tf:Tab}{H H':Hp}{k:Int}{a:Nat}{d d':Dict}{r:Rw}{v:Val}{E:Hp→Prop}{Q:Po MV}{M:Loc→Hp→Prop}{L:List (Option MV)}{w4 w5:Option MV}
theorem ll_ch (i:HwI hs t tr T Tf H)(hr:RowOk T r)(hv:v∈valAll)(hk:kindK r.w r.f= .choice)(hl:choiceOk r.f (exs r.op) v=true)(hd:tget T r.num=some d)(hI:dlook d (sK "I") =none)(m:(r.num,a)∈hs)(hc:H[a]?=some (cD d))
  (q:∀l H',HwI hs t tr (layR T (r,v)) Tf H'→Chg (hs.map (·.2)) H H'→M l H'):llCh (KF (n+4) false E Q) M [some (.dct (headsE hs)),some r.row,some (shv t tr),some v.mv,some (.ref a),w4,none,none,none,none,none,none,none,none,none,none,none,none,none,none,none,none] H:=by
 unfold layR chgD isBt at q
 rw [hk,hd] at q
 obtain ⟨hi,hin,hn⟩:=choice_ok hl
 obtain ⟨hp,hl10⟩:=val_ok v hv
 rw [hi] at hl10 hin
 have ls:∀ {f:Str→MV},(v.texts.map f).length≤sizeMost:=fun {f}=>by rw [List.length_map] at hl10 ⊢;exact Nat.le_trans hl10 (Nat.le_of_ble_eq_true rfl)
 have val:∀ {H2},H2=H→Rd vAll (tIf (tv (isC .lst (lv 3))) (lv 9) (itm (lv 9) (cst (.int 0))) (KF (n+4) false E Q) [some (.dct (headsE hs)),some r.row,some (shv t tr),some v.mv,some (.ref a),w4,none,none,some (.lst (v.texts.map .str)),some (.lst (v.texts.map sgS)),none,none,none,none,none,none,none,none,none,none,none,none]) (valV v):=fun _=>by
  cases v with
  | l ts=>exact fun Q H q=>q.now
  | s x=>exact fun Q H q=>⟨0,rfl,by decide,_,rfl,q.now⟩
  | n=>exact absurd rfl hn
 have ok1:=(i.tb.get hd).put (k:=sK "V") (v:=valV v) (inK (by decide)) (by
  unfold valV
  cases v.isL with
  | true=>
   exact .lst (by rw [List.length_map] at hl10 ⊢;exact Nat.lt_of_le_of_lt hl10 (by decide)) fun x hx=>by
    obtain ⟨y,_,rfl⟩:=List.mem_map.mp hx
    exact .str _
  | false=>exact .str _)
 refine sA (V:=vAll) trivial (rVals rfl) fun H1 x1=>?_
 rw [hi]
 refine sA (V:=vAll) (v:= .lst (v.texts.map sgS)) trivial (rLcp (flat_one (g:=sgS)▸rComp (u:= .str) (rOver (rLv rfl) ls) fun x hx=>rTurn rfl rYes (rOne (rOct rfl (rLv rfl) (hp x hx) fun q=>mk217 q))) ls) fun H2 x2=>sIx (V:=vAll) trivial (val rfl) (rLv rfl) ((x1.tr x2).get hc) (len_lt (i.tb.get hd)) fun H3 x3=>?_
 have x:=(x1.tr x2).tr x3
 have c3:(H3.set a (cD (dput d (sK "V") (valV v))))[a]?=some (cD (dput d (sK "V") (valV v))):=at_set (x.get hc)
 have i3:=(i.ex x).put m hd ok1
 have g3:Chg (hs.map (·.2)) H (H3.set a (cD (dput d (sK "V") (valV v)))):=(Chg.of x).st (.inl (in_snd m))
 refine sPop0 rfl rfl c3 (Nat.le_of_lt (len_lt ok1)) ((put_other (show sK "V"≠sK "I" by decide)).trans hI) ?_
 refine sI0 (V:=vAll) (c:= !fbit r.f 18) trivial (rNot fun Q' H q=>⟨3,rfl,by decide,_,rfl,sp_lflag (p:=18) hr.ff (by decide) _ H q⟩) (fun h H4 x4=>?_) fun h H4 x4=>?_
 ·have h:=nT h
  have ok2:=ok1.put (k:=sK "I") (v:=placesV r.op v.texts) (inK (by decide)) (.lst (by
   rw [List.length_map,(sortBy_perm _).length_eq];unfold idxs;rw [List.length_map] at hl10 ⊢;exact Nat.lt_of_le_of_lt hl10 (by decide)) fun x hx=>by
   obtain ⟨y,_,rfl⟩:=List.mem_map.mp hx
   exact .int _)
  have hd1:tget (tput T r.num (dput d (sK "V") (valV v))) r.num=some (dput d (sK "V") (valV v)):=by rw [tget_tput,if_pos rfl]
  refine sA (V:=vAll) trivial (v:= .lst (exs r.op)) (fun Q H q=>⟨3,rfl,by decide,_,rfl,sp_lexports (V:=vAll) hr.op _ H q⟩) fun H5 x5=>sIx (V:=vAll) trivial (rPlaces rfl rfl rfl (hin h) hl10) (rLv rfl) ((x4.tr x5).get c3) (len_lt ok1) fun H6 x6=>q _ _ ?_ ((g3.ex ((x4.tr x5).tr x6)).st (.inl (in_snd m)))
  have i6:=(i3.ex ((x4.tr x5).tr x6)).put m hd1 ok2
  rw [tput_tput] at i6
  unfold chgK
  rw [h]
  exact (turn_c1 (d:=d) (op:=r.op) (v:=v))▸i6
 ·have h:=nF h
  refine q _ _ ?_ (g3.ex x4)
  unfold chgK
  rw [h]
  exact (turn_c0 (op:=r.op) (v:=v) hI)▸i3.ex x4
theorem sp_llaid (i:HwI hs t tr T Tf H)(hr:RowOk T r)(hrf:RowOk Tf r)(hv:v∈valAll)(hl:letB r v=true)(hI:∀d,tget T r.num=some d→dlook d (sK "I") =none)(q:∀H',HwI hs t tr (layR T (r,v)) Tf H'→Chg (hs.map (·.2)) H H'→Q .none H'):cl (n+5) false E 771 [.dct (headsE hs),r.row,shv t tr,v.mv] Q H:=in771 (by
 obtain ⟨d,hd⟩:=hr.head
 obtain ⟨a,m,g,hc⟩:=i.h.mem hd
 have hl:=(Bool.and_eq_true_iff.mp hl).2
 have kd:Rd vAll (kall 751 [(itm (lv 1) (cst (.int 3)))] (KF (n+4) false E Q) [some (.dct (headsE hs)),some r.row,some (shv t tr),some v.mv,some (.ref a),none,none,none,none,none,none,none,none,none,none,none,none,none,none,none,none,none]) (.str (kindK r.w r.f).s):=rKall (rCons (rTup (k:=3) (rLv rfl) (by decide) rfl) rNil) (sp_lkind hr.ft hr.ff)
 refine sA (V:=vAll) trivial (rItmE (k:= .inl r.num) (rLv rfl) (fun Q H q=>⟨1,rfl,by decide,_,rfl,q.now⟩) .dct g) fun H1 x1=>sA (V:=vAll) trivial kd fun H2 x2=>?_
 have x:=x1.tr x2
 refine sI (V:=vAll) trivial (rBtn (k:=kindK r.w r.f) rfl) (fun h H3 x3=>?_) fun h H3 x3=>?_
 ·have hm:v.mv= .str v.txt:=by
   revert hl
   unfold letK
   cases hK:kindK r.w r.f with
   | check=>exact btn_s
   | radio=>exact btn_s
   | _=>rw [hK] at h;cases h
  exact ll_bt (i.ex (x.tr x3)) hr hrf hm h hd m ((x.tr x3).get hc) fun l H' a b=>q H' a ((Chg.of (x.tr x3)).tr b)
 ·cases hK:kindK r.w r.f with
  | text=>
   rw [hK] at hl
   cases v with
   | s y=>exact sT (V:=vAll) trivial (rStr rfl (by decide +kernel)) fun H4 x4=>ll_tx (i.ex ((x.tr x3).tr x4)) ((val_ok _ hv).1 y (.head _)) rfl h hK hd m (((x.tr x3).tr x4).get hc) fun l H' a b=>q H' a ((Chg.of ((x.tr x3).tr x4)).tr b)
   | _=>cases hl
  | choice=>
   rw [hK] at hl
   exact sF (V:=vAll) trivial (rStr rfl (by decide +kernel)) fun H4 x4=>ll_ch (i.ex ((x.tr x3).tr x4)) hr hv hK hl hd (hI d hd) m (((x.tr x3).tr x4).get hc) fun l H' a b=>q H' a ((Chg.of ((x.tr x3).tr x4)).tr b)
  | check=>rw [hK] at h;cases h
  | radio=>rw [hK] at h;cases h
  | _=>rw [hK] at hl;cases hl)
end
end Mine
end
section
namespace Mine
open PySem
noncomputable def NoI (T:Tab)(k:Int):Prop:=∀d,tget T k=some d→dlook d (sK "I") =none
theorem NoI.put {T:Tab}{k k':Int}{d:Dict}(h:NoI T k)(hd:k'=k→dlook d (sK "I") =none):NoI (tput T k' d) k:=fun e he=>by
 rw [tget_tput] at he
 by_cases w:k'=k
 ·rw [if_pos w] at he
  cases he
  exact hd w
 ·rw [if_neg w] at he
  exact h e he
theorem layW_noI {k:Int}{L:List (Int × MV)}:∀ {T:Tab},NoI T k→NoI (layW T L) k:=by
 induction L with
 | nil=>exact fun h=>h
 | cons p L ih=>
  intro T h
  refine ih (h.put fun w=>?_)
  have o:∀ {d:Dict},dlook (asD p.2 d) (sK "I") =dlook d (sK "I"):=put_other (by decide)
  rw [o,w]
  cases hg:tget T k with
  | none=>rfl
  | some d=>exact h d hg
theorem layR_noI {T:Tab}{p:Rw × Val}{k:Int}(hk:p.1.num≠k)(h:NoI T k):NoI (layR T p) k:=by
 have a:NoI (tput T p.1.num (turnD ((tget T p.1.num).getD []) (chgD p.1 p.2))) k:=h.put fun w=>absurd w hk
 unfold layR
 cases isBt p.1 with
 | true=>exact layW_noI a
 | false=>exact a
section
variable {hs:Hs}{t tr n:Nat}{T Tf:Tab}{H H':Hp}{E:Hp→Prop}{Q:Po MV}{pl:Option Int}{d:Dict}{ks:MV}
theorem sp_lneeded (i:HwI hs t tr T Tf H)(hP:FormP T pl d [(sK "Fields",ks)])(hks:PlainV 2 ks)(hfd:DOk [(sK "Fields",ks)])(q:∀H',HwI hs t tr (needT T pl d [(sK "Fields",ks)]) Tf H'→Chg (hs.map (·.2)) H H'→Q .none H'):cl (n+1) false E 793 [shv t tr, .dct (headsE hs)] Q H:=in793 (by
 have row1:∀ {d},tget T 1=some d→∃a,(1,a)∈hs∧H[a]?=some (cD d)∧∀ {V K l},lat l 1=some (.dct (headsE hs))→Rd V (itm (lv 1) (cst (.int 1)) K l) (.ref a):=fun hd=>by
  obtain ⟨a,m,g,hc⟩:=i.h.mem hd
  exact ⟨a,m,hc,fun e=>rItmE (k:= .inl 1) (rLv e) rCst .dct g⟩
 cases hP with
 | here h1 h2=>
  obtain ⟨a,m,hc,ra⟩:=row1 h1
  have ok:=i.tb.get h1
  refine sA (V:=cellV a (cD d)) hc (rItmE (k:=sK "AcroForm") (ra rfl) rCst (.ref fun H h=>h) h2) fun H1 x1=>sF (V:=vAll) trivial (fun Q H q=>q.now) fun H2 x2=>sIx (V:=vAll) (v:= .dct (formN [(sK "Fields",ks)])) trivial (fun Q H q=>⟨_,rfl,show 2≤sizeMost from Nat.le_of_ble_eq_true rfl,q.now⟩) (ra rfl) ((x1.tr x2).get hc) (len_lt ok) fun H3 x3=>q _ ((i.ex ((x1.tr x2).tr x3)).put m h1 (ok.put (inK (by decide)) ?_)) ((Chg.of ((x1.tr x2).tr x3)).st (.inl (in_snd m)))
  have fn:formN [(sK "Fields",ks)] = [(sK "Fields",ks),(sK "NeedAppearances", .bool true)]:=dput_new (look_f (e:=(sK "Fields",ks)) (show ¬ sK "Fields"=sK "NeedAppearances" by decide))
  rw [fn]
  exact .dct (show 2 < 60 by decide) (show [sK "Fields",sK "NeedAppearances"].Nodup by decide) (fun e he=>by
   rcases List.mem_cons.mp he with rfl | he
   ·exact ⟨_,rfl⟩
   ·rw [List.mem_singleton.mp he];exact ⟨_,rfl⟩) fun e he=>by
   rcases List.mem_cons.mp he with rfl | he
   ·exact hks
   ·rw [List.mem_singleton.mp he];exact .bool _
 | far h1 h2 h3=>
  obtain ⟨a,m,hc,ra⟩:=row1 h1
  obtain ⟨a3,m3,g3,hc3⟩:=i.h.mem h3
  refine sA (V:=cellV a (cD d)) hc (rItmE (k:=sK "AcroForm") (ra rfl) rCst (.ref fun H h=>h) h2) fun H1 x1=>sT (V:=vAll) trivial (fun Q H q=>q.now) fun H2 x2=>sIx (V:=vAll) trivial rCst (rItmE (k:= .inl _) (rLv rfl) (fun Q H q=>q.now) .dct g3) ((x1.tr x2).get hc3) (len_lt hfd) fun H3 x3=>q _ ((i.ex ((x1.tr x2).tr x3)).put m3 h3 (hfd.put (inK (by decide)) (.bool _))) ((Chg.of ((x1.tr x2).tr x3)).st (.inl (in_snd m3))))
end
end Mine
end
section
namespace Mine
open PySem
noncomputable def nowV (T:Tab)(k:Int):MV:= .tup [.int k, .tup [.int 0, .dct ((tget T k).getD [])]]
noncomputable def keyH (p:Int × Nat):MV:= .int p.1
inductive NwI (hs:Hs)(t tr:Nat)(T:Tab)(xs acc:List MV)(H:Hp):Prop
 | mk (dn rest:Hs):xs=rest.map keyH→dn ++ rest=hs→acc= (dn.map (·.1)).map (nowV T)→(sees t tr T).p H→(∀p∈rest,∃d,tget T p.1=some d∧H[p.2]?=some (cD d))→NwI hs t tr T xs acc H
theorem keys_heads {hs:Hs}:keysV (headsE hs) =hs.map keyH:=by unfold keysV headsE;rw [List.map_map];rfl
theorem now_rows {T:Tab}(h:NoDupT T):(T.map (·.1)).map (nowV T) = (tabE T).map keyed:=by
 unfold tabE
 rw [List.map_map,List.map_map]
 refine List.map_congr_left fun p hp=>?_
 show nowV T p.1=_
 unfold nowV
 rw [tget_of_mem h hp];rfl
section
variable {hs:Hs}{t tr n:Nat}{T:Tab}{H:Hp}{E:Hp→Prop}{Q:Po MV}
theorem sp_lnow (i:HwI hs t tr T T H)(q:∀H',Q (.bool true) H'):cl (n+9) false E 798 [shv t tr, .dct (headsE hs)] Q H:=in798 (by
 obtain ⟨w,told,pl⟩:=told_shelf i.tb.num i.tb.len i.tb.plain
 have hl:hs.length=T.length:=by
  have:=congrArg List.length i.h.keys
  rw [List.length_map,List.length_map] at this
  exact this
 have h64:hs.length < 64:=hl▸i.tb.len
 have ls:∀ {α:Type}{xs:List α},xs.length=hs.length→xs.length≤sizeMost:=fun e=>e▸Nat.le_trans (Nat.le_of_lt h64) (Nat.le_of_ble_eq_true rfl)
 refine (told t tr n false E (.ref t) (.ref fun H h=>h.1)).run i.see fun H1 x1=>?_
 refine ⟨rfl,ls (List.length_map _),?_⟩
 rw [keys_heads]
 refine each_inv (NwI hs t tr T) (fun {x xs acc H'} a Q q=>?_) (.mk [] hs rfl rfl rfl ((sees t tr T).mono x1 i.see) ((i.h.ex x1).at')) fun ys H2 a=>?_
 ·obtain ⟨dn,rest,e,hall,rfl,p',hat⟩:=a
  cases rest with
  | nil=>cases e
  | cons p rest=>
   obtain ⟨rfl,rfl⟩:=List.cons.inj e
   obtain ⟨k,a⟩:=p
   obtain ⟨d,h1,h2⟩:=hat _ (.head _)
   have hm:(k,a)∈hs:=by rw [← hall];exact List.mem_append_right _ (.head _)
   refine ⟨_,heads_get i.h.nk hm,_,_,h2,trivial,q _ _ (.mk (dn ++ [(k,a)]) rest rfl ((List.append_assoc ..).trans hall) ?_ ⟨at_ne p'.1 (i.nt _ hm).1,at_ne p'.2 (i.nt _ hm).2⟩ fun p hp=>?_)⟩
   ·rw [List.map_append,List.map_append]
    show _=_ ++ [nowV T k]
    unfold nowV
    rw [h1];rfl
   ·obtain ⟨d2,g1,g2⟩:=hat p (.tail _ hp)
    refine ⟨d2,g1,at_ne g2 fun w=>?_⟩
    have na:=i.h.na
    rw [← hall,List.map_append] at na
    exact (List.nodup_cons.mp (List.nodup_append.mp na).2.1).1 (List.mem_map.mpr ⟨p,hp,w.symm⟩)
 ·obtain ⟨dn,rest,e,hall,e2,p',hat⟩:=a
  cases rest with
  | cons p rest=>cases e
  | nil=>
   rw [List.append_nil] at hall
   have e2:ys= (dn.map (·.1)).map (nowV T):=e2
   rw [hall,i.h.keys,now_rows i.tb.nd] at e2
   have dn:dputs [] (tabE T) =tabE T:=dputs_new (es:=[]) (noDup_tabE i.tb.nd)
   have tl:(tabE T).length≤sizeMost:=ls ((List.length_map _).trans hl.symm)
   exact ⟨e2▸ls ((List.length_map _).trans ((List.length_map _).trans hl.symm)),rfl,_,e2,tl,dn.symm▸tl,dn.symm▸mk375' ((told t tr n false E (.dct (tabE T)) .dct).run p' fun H3 x3=>⟨rfl,pl,q H3⟩)⟩)
end
end Mine
end
section
namespace Mine
open PySem
noncomputable def PoolAt (p:Nat)(H:Hp):Prop:=∃ps:List Int,H[p]?=some (cL (ps.map .int))∧ps.length≤24
theorem PoolAt.ex {p:Nat}{H H':Hp}(h:PoolAt p H)(e:Ext H H'):PoolAt p H':=h.imp fun _ h=>⟨e.get h.1,h.2⟩
theorem PoolAt.chg {p:Nat}{S:List Nat}{H H':Hp}(h:PoolAt p H)(e:Chg S H H')(hp:p∉S):PoolAt p H':=h.imp fun _ h=>⟨e.get h.1 hp,h.2⟩
structure Inv (p:Nat) where
 i:Hp→Prop
 po:∀ {H},i H→PoolAt p H
 ch:∀ {H H'},i H→Chg [p] H H'→PoolAt p H'→i H'
theorem Inv.ex {p:Nat}(I:Inv p){H H':Hp}(h:I.i H)(e:Ext H H'):I.i H':=I.ch h (.of e) ((I.po h).ex e)
noncomputable def Dw {p:Nat}{α:Type}(I:Inv p)(m:Po α→Hp→Prop)(P:α→Prop):Prop:=∀Q H,I.i H→(∀v H',I.i H'→P v→Q v H')→m Q H
noncomputable def below (m:Nat)(v:MV):Prop:=∃k:Nat,v= .int k∧k < m
noncomputable def any {α:Type} (_:α):Prop:=True
theorem sp_take {p n m:Nat}{E:Hp→Prop}{Q:Po MV}{H:Hp}(h:PoolAt p H)(hm:0 < m)(hm2:m < 1000)(q:∀v H',below m v→PoolAt p H'→Chg [p] H H'→Q v H'):cl (n+1) false E 698 [.ref p, .int m] Q H:=in698 (by
 obtain ⟨ps,hp,hl⟩:=h
 have lm:(ps.map MV.int).length≤sizeMost:=by rw [List.length_map];exact Nat.le_trans hl (Nat.le_of_ble_eq_true rfl)
 have hm':(0:Int) < m:=Int.ofNat_lt.mpr hm
 cases ps with
 | nil=>exact ⟨_,hp,lm,q _ _ ⟨0,rfl,hm⟩ ⟨[],hp,hl⟩ (.of .rfl')⟩
 | cons x ps=>
  have b:below m (.int (x.fmod m)):=⟨(x.fmod m).toNat,congrArg MV.int (Int.toNat_of_nonneg (Int.fmod_nonneg_of_pos x hm')).symm,(Int.toNat_lt (Int.fmod_nonneg_of_pos x hm')).mpr (Int.fmod_lt_of_pos x hm')⟩
  have c:∀ {c},Chg [p] H (H.set p c):=(Chg.of .rfl').st (.inl (.head _))
  refine ⟨_,hp,lm,_,hp,0,rfl,by decide,_,rfl,hm',_,hp,0,rfl,by decide,_,rfl,hm',Int.ofNat_lt.mpr (Nat.lt_trans hm2 (by decide)),_,hp,rfl,_,_,rfl,_,at_set hp,0,rfl,by decide,_,rfl,?_⟩
  cases hz:x.fdiv m == 0 with
  | true=>exact bT hz ⟨_,at_set hp,rfl,_,at_set hp,rfl,lm,_,_,rfl,q _ _ b ⟨ps,at_set (at_set hp),Nat.le_of_succ_le hl⟩ (c.st (.inl (.head _)))⟩
  | false=>exact bF hz (q _ _ b ⟨x.fdiv m::ps,at_set hp,hl⟩ c))
section
variable {p:Nat}{I:Inv p}{V:View}{K:Kx}{l:Loc}{M:Loc→Hp→Prop}{H:Hp}{b x y:Cs}{e o:Cd MV}{t u:Cd Bool}{j n m:Nat}{v:MV}{xs:List MV}{P R:MV→Prop}{es:List (Cd MV)}{f:Addr}{c:Int}
theorem dTake (hc:K.cl=cl (n+1))(hh:K.hd=false)(e:lat l j=some (.ref p))(hm:0 < m)(hm2:m < 1000):Dw I (kall 698 [lv j,cst (.int m)] K l) (below m):=fun Q H h q=>lvE K e (by
 show K.cl K.hd _ _ _ _ _
 rw [hc,hh]
 exact sp_take (I.po h) hm hm2 fun v H' b po ch=>q v H' (I.ch h ch po) b)
theorem dRd {α:Type}{m:Po α→Hp→Prop}{v:α}{P:α→Prop}(h:Rd V m v)(hv:∀ {H},I.i H→V.p H)(hP:P v):Dw I m P:=fun Q H i q=>h.run (hv i) fun H2 x=>q v H2 (I.ex i x) hP
theorem dNm (hc:K.cl=cl (n+1))(h:Dw I (e K l) R)(hP:∀v,R v→P (.inst 195 [v])):Dw I (kall 195 [e] K l) P:=fun Q H i q=>h _ H i fun v H2 i2 hv=>by
 show K.cl _ _ _ _ _ _
 rw [hc]
 exact mk195 (q _ H2 i2 (hP v hv))
theorem dSg (hc:K.cl=cl (n+1))(h:Dw I (e K l) R)(hP:∀v,R v→P (.inst 217 [v, .bool false])):Dw I (kall 217 [e] K l) P:=fun Q H i q=>h _ H i fun v H2 i2 hv=>by
 show K.cl _ _ _ _ _ _
 rw [hc]
 exact mk217 (q _ H2 i2 (hP v hv))
theorem dAdd1 (h:Dw I (e K l) (below m)):Dw I (bin .add (cst (.int 1)) e K l) fun v=>∃k:Nat,v= .int k∧1≤k∧k≤m:=fun Q H i q=>h _ H i fun v H2 i2 ⟨k,hv,hk⟩=>by
 subst hv
 exact q _ H2 i2 ⟨1+k,congrArg MV.int (Int.natCast_add 1 k).symm,Nat.le_add_right _ _,by rw [Nat.add_comm];exact hk⟩
theorem dTke {R:Nat→Prop}(h1:Rd vAll (o K l) (.lst xs))(hl:xs.length≤sizeMost)(h2:Dw I (e K l) fun v=>∃k:Nat,v= .int k∧R k):Dw I (tke o e K l) fun v=>∃k,R k∧v= .lst (xs.take k):=fun Q H i q=>h1.run trivial fun H1 x1=>h2 _ H1 (I.ex i x1) fun v H2 i2 ⟨k,hv,hk⟩=>by
 subst hv
 exact ⟨k,rfl,hl,q _ H2 i2 ⟨k,hk,rfl⟩⟩
theorem dMono (h:Dw I (e K l) P)(hP:∀v,P v→R v):Dw I (e K l) R:=fun Q H i q=>h Q H i fun v H' i' p=>q v H' i' (hP v p)
theorem dAt (h1:Rd vAll (o K l) (.tup xs))(h2:Dw I (e K l) (below m))(hm:m=xs.length)(hl:m < 100000):Dw I (itm o e K l) (· ∈xs):=fun Q H i q=>h1.run trivial fun H1 x1=>h2 _ H1 (I.ex i x1) fun v H2 i2 ⟨k,hv,hk⟩=>by
 subst hv hm
 exact ⟨k,rfl,Nat.lt_trans hk hl,_,List.getElem?_eq_getElem hk,q _ H2 i2 (List.getElem_mem hk)⟩
theorem dEq (h:Dw I (e K l) (below m)):Dw I (tCmp .eq e (cst (.int c)) K l) any:=fun Q H i q=>h _ H i fun v H2 i2 ⟨k,hv,hk⟩=>by
 subst hv;exact q _ H2 i2 trivial
theorem dLt (h:Dw I (e K l) (below m)):Dw I (tCmp .lt e (cst (.int c)) K l) any:=fun Q H i q=>h _ H i fun v H2 i2 ⟨k,hv,hk⟩=>by
 subst hv;exact q _ H2 i2 trivial
theorem dGt (h:Dw I (e K l) (below m)):Dw I (tCmp .gt e (cst (.int c)) K l) any:=fun Q H i q=>h _ H i fun v H2 i2 ⟨k,hv,hk⟩=>by
 subst hv;exact q _ H2 i2 trivial
theorem dAnd (h1:Dw I (t K l) any)(h2:Dw I (u K l) any):Dw I (tAnd t u K l) any:=fun Q H i q=>h1 _ H i fun v H2 i2 _=>by
 cases v with
 | true=>exact h2 _ H2 i2 q
 | false=>exact q _ H2 i2 trivial
theorem dOr (h1:Dw I (t K l) any)(h2:Dw I (u K l) any):Dw I (tOr t u K l) any:=fun Q H i q=>h1 _ H i fun v H2 i2 _=>by
 cases v with
 | true=>exact q _ H2 i2 trivial
 | false=>exact h2 _ H2 i2 q
theorem dYes:Dw I (yes K l) any:=fun Q H i q=>q _ H i trivial
theorem dNo:Dw I (tfl K l) any:=fun Q H i q=>q _ H i trivial
theorem dOne (h:Dw I (e K l) P):Dw I (ione e K l) fun ys=>∃v,ys= [v]∧P v:=fun Q H i q=>h _ H i fun v H2 i2 p=>q _ H2 i2 ⟨v,rfl,p⟩
theorem dIf (h1:Dw I (t K l) any)(h2:Dw I (e K l) P)(h3:Dw I (o K l) P):Dw I (tIf t e o K l) P:=fun Q H i q=>h1 _ H i fun v H2 i2 _=>by
 cases v with
 | true=>exact h2 _ H2 i2 q
 | false=>exact h3 _ H2 i2 q
theorem wA (i:I.i H)(h:Dw I (e K l) P)(q:∀v H',I.i H'→P v→b K M (lput l j v) H'):sq (asS (.one j) e) b K M l H:=h _ H i q
theorem wI (i:I.i H)(h:Dw I (t K l) any)(qx:∀H',I.i H'→x K (b K M) l H')(qy:∀H',I.i H'→y K (b K M) l H'):sq (ifS t x y) b K M l H:=h _ H i fun v H2 i2 _=>by
 cases v with
 | true=>exact qx H2 i2
 | false=>exact qy H2 i2
theorem wR (i:I.i H)(h:Dw I (e K l) P)(q:∀v H',I.i H'→P v→K.ret v H'):sq (retS e) b K M l H:=h _ H i q
theorem dEach {τ:Type}{g:MV→Po (List τ)→Hp→Prop}{R:τ→Prop}{zs:List MV}(h:∀x∈zs,Dw I (g x) fun ys=>ys.length≤1∧∀y∈ys,R y):Dw I (eachM g zs) fun ys=>ys.length≤zs.length∧∀y∈ys,R y:=by
 induction zs with
 | nil=>exact fun Q H i q=>q _ H i ⟨Nat.le_refl _,nofun⟩
 | cons x zs ih=>exact fun Q H i q=>h x (.head _) _ H i fun ys H2 i2 p=>ih (fun y hy=>h y (.tail _ hy)) _ H2 i2 fun zs H3 i3 p2=>q _ H3 i3 ⟨by rw [List.length_append,List.length_cons,Nat.add_comm];exact Nat.add_le_add p2.1 p.1,fun y hy=>(List.mem_append.mp hy).elim (p.2 y) (p2.2 y)⟩
theorem dOneR (h:Dw I (e K l) P):Dw I (ione e K l) fun ys=>ys.length≤1∧∀y∈ys,P y:=fun Q H i q=>h _ H i fun v H2 i2 p=>q _ H2 i2 ⟨Nat.le_refl _,fun y hy=>by rw [List.mem_singleton.mp hy];exact p⟩
theorem dTurnP {τ:Type}{inner:Cd (List τ)}{P:List τ→Prop}(h:lat l j=none)(hc:Dw I (t K (lput l j v)) any)(hi:Dw I (inner K (lput l j v)) P)(h0:P []):Dw I (turn (.one j) t inner K l v) P:=fun Q H i q=>by
 show (match lat l j with | none=>t K (lput l j v) (fun b=>bif b then inner K (lput l j v) Q else Q []) H | some _=>False)
 rw [h]
 exact hc _ H i fun b H2 i2 _=>by
  cases b with
  | true=>exact hi _ H2 i2 q
  | false=>exact q _ H2 i2 h0
theorem dTurn {τ:Type}{inner:Cd (List τ)}{R:τ→Prop}(h:lat l j=none)(hc:Dw I (t K (lput l j v)) any)(hi:Dw I (inner K (lput l j v)) fun ys=>ys.length≤1∧∀y∈ys,R y):Dw I (turn (.one j) t inner K l v) fun ys=>ys.length≤1∧∀y∈ys,R y:=dTurnP h hc hi ⟨Nat.zero_le _,nofun⟩
theorem dKall {vs:List MV}(h:Rd vAll (evs es K l) vs)(hf:Dw I (K.cl K.hd K.E f vs) P):Dw I (kall f es K l) P:=fun Q H i q=>h.run trivial fun H2 x=>hf _ H2 (I.ex i x) q
end
end Mine
end
section
namespace Mine
open PySem
section
variable {p:Nat}{I:Inv p}{n:Nat}{E:Hp→Prop}{s:Str}
theorem sp_lstring:Dw I (cl (n+2) false E 705 [.ref p]) (PlainV 1):=fun Q H i q=>in705 (wR (b:=skp) (M:=fun _=>Q .none) i (dSg rfl (dAt (m:=4) (xs:=[.bytes [], .bytes [97], .bytes [97,98,99], .bytes [97,98,99,100]]) (fun Q H q=>q.now) (dTake rfl rfl rfl (by decide) (by decide)) rfl (by decide)) fun v hv=>by
 obtain ⟨b,_,rfl⟩:=List.mem_map.mp (show v∈([[],[97],[97,98,99],[97,98,99,100]]:List (List UInt8)).map MV.bytes from hv)
 exact .str b) q)
theorem sp_lobject:Dw I (cl (n+3) false E 710 [.ref p, .str s]) (PlainV 2):=fun Q H i q=>in710 (wA i (dTake rfl rfl rfl (m:=5) (by decide) (by decide)) fun v H1 i1 ⟨k,hv,hk⟩=>by
 subst hv
 refine sI0 (V:=vAll) (c:=(k:Int) == 0) trivial (rCmp (rLv rfl) rCst fun _ _ q=>q) (fun _ H2 x2=>q _ H2 (I.ex i1 x2) (.int 7)) fun h0 H2 x2=>?_
 have k0:k≠0:=fun w=>by rw [w] at h0;cases h0
 have e1:(k:Int) - 1= ((k - 1:Nat):Int):=by omega
 have k4:k - 1 < 4:=by omega
 refine sI0 (V:=vAll) trivial (rStr rfl rfl) (fun _ H3 x3=>?_) fun _ H3 x3=>?_
 ·obtain ⟨b,_,hb⟩:=List.mem_map.mp (show ([.str "Off", .str "x", .str "y", .str "z"]:List MV)[k - 1]'k4∈ ["Off","x","y","z"].map strV from List.getElem_mem k4)
  exact ⟨k - 1,e1,Nat.lt_trans k4 (by decide),_,List.getElem?_eq_getElem k4,by rw [← hb];exact mk195 (q _ H3 (I.ex i1 (x2.tr x3)) (.name _))⟩
 ·refine wR (I.ex i1 (x2.tr x3)) (dIf (dAnd (dRd (V:=vAll) (rStr rfl rfl) (fun _=>trivial) trivial) (dAnd (dGt (dRd (V:=vAll) (rLv rfl) (fun _=>trivial) ⟨k,rfl,hk⟩)) dYes)) (fun Q H i q=>⟨rfl,?_,?_,?_⟩) (dKall (rCons (rLv rfl) rNil) fun Q H i q=>sp_lstring Q H i fun v H' i' hv=>q v H' i' hv.up)) q
  ·rw [e1];exact Int.ofNat_le.mpr (Nat.le_trans (Nat.le_of_lt k4) (by decide))
  ·rw [e1];exact Int.le_trans (by decide) (Int.natCast_nonneg _)
  ·rw [e1]
   refine dEach (I:=I) (R:=PlainV 1) (fun x hx=>dTurn rfl dYes (dOneR (dKall (rCons (rLv rfl) rNil) sp_lstring))) _ H i fun ys H2 i2 hy=>?_
   have l4:ys.length≤3:=Nat.le_trans hy.1 (by rw [List.length_map,List.length_range];show k - 1≤3;omega)
   exact ⟨Nat.le_trans l4 (Nat.le_of_ble_eq_true rfl),q _ H2 i2 (.lst (Nat.lt_of_le_of_lt l4 (by decide)) hy.2)⟩)
end
end Mine
end
section
namespace Mine
open PySem
noncomputable def sxOf (k:Key):Nat:=if k=sK "FT" then 1 else if k=sK "Ff" then 2 else if k=sK "MaxLen" then 3 else if k=sK "Opt" then 4 else 0
noncomputable def SixV (k:Nat)(v:MV):Prop:=match k with
 | 1=>∃w∈words,v=nmv (Str.ofString w)
 | 2=>∃f:Int,0≤f∧v= .int f
 | 3=>v= .int 3
 | 4=>∃op,1≤op∧op≤3∧v= .lst ((opts.take op).map Opt.v)
 | _=>True
structure HdI (d:Dict):Prop where
 ok:DOk d
 six:∀e∈d,SixV (sxOf e.1) e.2
theorem HdI.nil:HdI []:=⟨.nil,nofun⟩
theorem HdI.put {d:Dict}{k:Key}{v:MV}(h:HdI d)(hk:k∈allK.map sK)(hv:PlainV 3 v)(hs:SixV (sxOf k) v):HdI (dput d k v):=⟨h.ok.put hk hv,fun e he=>(mem_dput he).elim (h.six e) fun w=>by rw [w];exact hs⟩
theorem sx_at:sxOf (sK "FT") =1∧sxOf (sK "Ff") =2∧sxOf (sK "MaxLen") =3∧sxOf (sK "Opt") =4∧sxOf (sK "V") =0∧sxOf (sK "DV") =0:=by decide +kernel
theorem HdI.get {d:Dict}{k:Key}{v:MV}{n:Nat}(h:HdI d)(hk:dlook d k=some v)(e:sxOf k=n):SixV n v:=e▸h.six _ (look_mem hk)
noncomputable def SameO (d d':Dict):Prop:=∀k:Key,k∉sixK.map sK→dlook d' k=dlook d k
theorem SameO.put {d d':Dict}{k:Key}{v:MV}(h:SameO d d')(hk:k∈sixK.map sK):SameO d (dput d' k v):=fun x hx=>(put_other fun w:k=x=>hx (w▸hk)).trans (h x hx)
theorem six_all:∀k∈sixK,k∈allK:=by decide
theorem sixA {k:Key}(h:k∈sixK.map sK):k∈allK.map sK:=by
 obtain ⟨x,hx,rfl⟩:=List.mem_map.mp h
 exact inK (six_all x hx)
theorem in6 {k:String}(h:k∈sixK):sK k∈sixK.map sK:=List.mem_map.mpr ⟨k,h,rfl⟩
structure EnI (p a:Nat)(H0:Hp)(d0:Dict)(H:Hp):Prop where
 po:PoolAt p H
 hd:∃d,H[a]?=some (cD d)∧HdI d∧SameO d0 d
 ch:Chg [p,a] H0 H
noncomputable def enInv (p a:Nat)(H0:Hp)(d0:Dict)(h0:a≠p):Inv p:=⟨EnI p a H0 d0,fun i=>i.po,fun i c po=>⟨po,by
 obtain ⟨d,h1,h2⟩:=i.hd
 exact ⟨d,c.get h1 fun w=>h0 (List.mem_singleton.mp w),h2⟩,i.ch.sub c fun x hx=> .inl (by rw [List.mem_singleton.mp hx];exact .head _)⟩⟩
section
variable {p a n:Nat}{H0 H:Hp}{d0 g:Dict}{h0:a≠p}{K:Kx}{l:Loc}{M:Loc→Hp→Prop}{b:Cs}{e o:Cd MV}{P:MV→Prop}{j:Nat}{s:Str}{E:Hp→Prop}{Q:Po MV}
theorem wSet (i:(enInv p a H0 d0 h0).i H)(h:Dw (enInv p a H0 d0 h0) (e K l) P)(e1:lat l j=some (.ref a))(hk:Rd vAll (o K l) (.str s))(h6:(.inr s:Key)∈sixK.map sK)(hP:∀v,P v→PlainV 3 v∧SixV (sxOf (.inr s)) v)(q:∀H',(enInv p a H0 d0 h0).i H'→b K M l H'):sq (ixS (lv j) o e) b K M l H:=h _ H i fun v H2 i2 pv=>lvE K e1 (hk.run trivial fun H3 x3=>by
 obtain ⟨d,h1,h2,h3⟩:=(Inv.ex _ i2 x3:EnI p a H0 d0 H3).hd
 have ch:=(Inv.ex _ i2 x3:EnI p a H0 d0 H3).ch
 have po:=(Inv.ex _ i2 x3:EnI p a H0 d0 H3).po
 obtain ⟨v1,v2⟩:=hP v pv
 exact ⟨_,h1,len_lt h2.ok,q _ ⟨po.imp fun _ h=>⟨at_ne h.1 h0,h.2⟩,⟨_,at_set h1,h2.put (sixA h6) v1 v2,h3.put h6⟩,ch.st (.inl (.tail _ (.head _)))⟩⟩)
theorem six_name {d:Dict}(h:HdI d){z:MV}(hz:∃s,z=nmv s):∃s,(dlook d (sK "FT")).getD z=nmv s:=by
 cases hd:dlook d (sK "FT") with
 | none=>exact hz
 | some v=>
  obtain ⟨w,_,e⟩:=h.get hd sx_at.1
  exact ⟨_,e⟩
theorem sum_nn {l:List Int}(h:∀i∈l,0≤i∧i≤1073741824):0≤l.sum:=by
 induction l with
 | nil=>exact Int.le_refl _
 | cons x l ih=>rw [List.sum_cons];exact Int.add_nonneg (h x (.head _)).1 (ih fun i hi=>h i (.tail _ hi))
theorem map_ints {xs:List MV}{P:Int→Prop}(h:∀y∈xs,∃i,y= .int i∧P i):∃l:List Int,xs=l.map .int∧∀i∈l,P i:=by
 induction xs with
 | nil=>exact ⟨[],rfl,nofun⟩
 | cons x xs ih=>
  obtain ⟨i,rfl,hi⟩:=h x (.head _)
  obtain ⟨l,rfl,hl⟩:=ih fun y hy=>h y (.tail _ hy)
  exact ⟨i::l,rfl,fun j hj=>(List.mem_cons.mp hj).elim (fun e=>e▸hi) (hl j)⟩
noncomputable def enF:Cs:=(sq (ifS (tCmp .eq (kall 698 [(lv 0),(cst (.int 2))]) (cst (.int 1))) (sq (asS (.one 5) (lstC false [(kall 217 [(cst (.bytes [97,98,99]))]),(kall 217 [(cst (.bytes [76,111,110,103]))])])) (sq (ixS (lv 1) (cst (.str "Opt")) (tke (lstC false [(kall 217 [(cst (.bytes [97]))]),(lv 5),(kall 217 [(cst (.bytes [97,98,99,100]))])]) (bin .add (cst (.int 1)) (kall 698 [(lv 0),(cst (.int 3))])))) skp)) skp) skp)
noncomputable def enE:Cs:=(sq (ifS (tCmp .eq (kall 698 [(lv 0),(cst (.int 3))]) (cst (.int 1))) (sq (ixS (lv 1) (cst (.str "MaxLen")) (cst (.int 3))) skp) skp) enF)
noncomputable def enD:Cs:=(sq (forS (.one 4) (iover (tupC [(cst (.str "V")),(cst (.str "DV"))])) (sq (ifS (tCmp .eq (kall 698 [(lv 0),(cst (.int 2))]) (cst (.int 1))) (sq (ixS (lv 1) (lv 4) (kall 710 [(lv 0),(lv 3)])) skp) skp) skp)) enE)
noncomputable def enC:Cs:=(sq (asS (.one 3) (fd 195 0 (mth false .dict .get2 (lv 1) [(cst (.str "FT")),(mth false .dict .get2 (lv 2) [(cst (.str "FT")),(kall 195 [(cst (.str ""))])])]))) (sq (ifS (tCmp .eq (kall 698 [(lv 0),(cst (.int 2))]) (cst (.int 1))) (sq (ixS (lv 1) (cst (.str "Ff")) (blt false .sum [(lcp false (icomp [none,none,none,some 0] (.one 1) (iover (tupC [(cst (.int 0)),(cst (.int 2)),(cst (.int 14)),(cst (.int 15)),(cst (.int 16)),(cst (.int 17)),(cst (.int 18)),(cst (.int 21)),(cst (.int 25))])) (tAnd (tCmp .eq (kall 698 [(lv 3),(cst (.int 4))]) (cst (.int 1))) yes) (ione (bin .pow (cst (.int 2)) (lv 1)))))])) skp) skp) enD))
theorem opt_plain {op:Nat}:PlainV 3 (.lst ((opts.take op).map Opt.v)):= .lst (Nat.lt_of_le_of_lt (by rw [List.length_map];exact opt_le) (by decide:3 < 60)) fun x hx=>by
 obtain ⟨o,_,rfl⟩:=List.mem_map.mp hx
 unfold Opt.v
 cases o.pair with
 | true=>
  exact .lst (show 2 < 60 by decide) fun x hx=>by
   rcases List.mem_cons.mp hx with rfl | hx
   ·exact .str _
   ·rw [List.mem_singleton.mp hx];exact .str _
 | false=>exact .str _
theorem pow_ok:∀x∈([0,2,14,15,16,17,18,21,25]:List Int),0≤x∧x≤100∧0≤(2:Int) ^ x.toNat∧(2:Int) ^ x.toNat≤1073741824:=by decide +kernel
theorem sp_lentries (i:(enInv p a H0 d0 h0).i H)(hg:HdI g)(q:∀H',(enInv p a H0 d0 h0).i H'→Q .none H'):cl (n+4) false E 715 [.ref p, .ref a, .dct g] Q H:=in715 (by
 have tk:∀ {m:Nat}{l:Loc},lat l 0=some (.ref p)→0 < m→m < 1000→Dw (enInv p a H0 d0 h0) (kall 698 [lv 0,cst (.int m)] (KF (n+3) false E Q) l) (below m):=fun e hm h2=>dTake rfl rfl e hm h2
 have six:∀v∈([.str "Tx", .str "Ch", .str "Btn", .str "Btn", .str "Ch", .str "Sig"]:List MV),∃w∈words,v= .str (Str.ofString w):=fun v hv=>by
  obtain ⟨w,hw,rfl⟩:=List.mem_map.mp (show v∈ ["Tx","Ch","Btn","Btn","Ch","Sig"].map strV from hv)
  exact ⟨w,(by decide:∀w∈ ["Tx","Ch","Btn","Btn","Ch","Sig"],w∈words) w hw,rfl⟩
 have dt:∀ {t:Cd Bool}{B:Bool}{K:Kx}{l:Loc},Rd vAll (t K l) B→Dw (enInv p a H0 d0 h0) (t K l) any:=fun h=>dRd h (fun _=>trivial) trivial
 have loop:∀ {s:Str} {H2},(enInv p a H0 d0 h0).i H2→enD (KF (n+3) false E Q) (fun _=>Q .none) [some (.ref p),some (.ref a),some (.dct g),some (.str s),none,none,none,none,none,none,none] H2:=fun {s H2} i2=>by
  refine sFor (V:=vAll) (xs:=["V","DV"].map strV) (fun xs l H'=>∃ks:List String,∃u,xs=ks.map strV∧(∀k∈ks,k∈ ["V","DV"])∧l= [some (.ref p),some (.ref a),some (.dct g),some (.str s),u,none,none,none,none,none,none]∧(enInv p a H0 d0 h0).i H') trivial (fun Q H q=>⟨rfl,Nat.le_of_ble_eq_true rfl,q.now⟩) (fun H3 x3=>⟨_,none,rfl,fun k h=>h,rfl,Inv.ex _ i2 x3⟩) (fun {x xs l H'} h B N' hN=>?_) fun l H' h=>?_
  ·obtain ⟨ks,u,e,hk,rfl,i'⟩:=h
   cases ks with
   | nil=>cases e
   | cons k ks=>
    obtain ⟨rfl,rfl⟩:=List.cons.inj e
    have h6:k∈sixK∧sxOf (sK k) =0:=by
     rcases List.mem_cons.mp (hk k (.head _)) with rfl | h
     ·exact ⟨by decide,sx_at.2.2.2.2.1⟩
     ·rw [List.mem_singleton.mp h];exact ⟨by decide,sx_at.2.2.2.2.2⟩
    have fin:∀ {H3},(enInv p a H0 d0 h0).i H3→N' [some (.ref p),some (.ref a),some (.dct g),some (.str s),some (strV k),none,none,none,none,none,none] H3:=fun i3=>hN _ _ ⟨ks,_,rfl,fun k h=>hk k (.tail _ h),rfl,i3⟩
    exact wI i' (dEq (dTake rfl rfl rfl (m:=2) (by decide) (by decide))) (fun H3 i3=>wSet (s:=Str.ofString k) (P:=PlainV 2) i3 (dKall (rCons (rLv rfl) (rCons (rLv rfl) rNil)) (sp_lobject (n:=n))) rfl (rLv rfl) (in6 h6.1) (fun v hv=>⟨hv.up,(show sxOf (sK k) =0 from h6.2)▸trivial⟩) fun H4 i4=>fin i4) fun H3 i3=>fin i3
  ·obtain ⟨ks,u,e,hk,rfl,i'⟩:=h
   have opt:∀ {H3},(enInv p a H0 d0 h0).i H3→enF (KF (n+3) false E Q) (fun _=>Q .none) [some (.ref p),some (.ref a),some (.dct g),some (.str s),u,none,none,none,none,none,none] H3:=fun {H3} i3=>by
    refine wI i3 (dEq (tk (m:=2) rfl (by decide) (by decide))) (fun H4 i4=>?_) fun H4 i4=>q _ i4
    refine sA (V:=vAll) (v:= .lst [sg [97,98,99],sg [76,111,110,103]]) trivial (fun Q H q=>mk217 (mk217 ⟨show 2≤sizeMost from Nat.le_of_ble_eq_true rfl,q.now⟩)) fun H5 x5=>wSet (s:="Opt") (P:=fun v=>∃op,1≤op∧op≤3∧v= .lst ((opts.take op).map Opt.v)) (Inv.ex _ i4 x5) (dMono (dTke (xs:=opts.map Opt.v) (R:=fun k=>1≤k∧k≤3) (fun Q H q=>mk217 (mk217 ⟨show 3≤sizeMost from Nat.le_of_ble_eq_true rfl,q.now⟩)) (Nat.le_of_ble_eq_true rfl) (dAdd1 (tk (m:=3) rfl (by decide) (by decide)))) fun v ⟨op,h,e⟩=>⟨op,h.1,h.2,by rw [List.map_take];exact e⟩) rfl rCst (in6 (k:="Opt") (by decide)) (fun v ⟨op,h1,h2,e⟩=>by
     rw [e,sx_at.2.2.2.1];exact ⟨opt_plain,op,h1,h2,rfl⟩) fun H6 i6=>q _ i6
   refine wI i' (dEq (tk (m:=3) rfl (by decide) (by decide))) (fun H4 i4=>wSet (s:="MaxLen") (P:=fun v=>v= .int 3) i4 (dRd (V:=vAll) rCst (fun _=>trivial) rfl) rfl rCst (in6 (k:="MaxLen") (by decide)) (fun v e=>by
    rw [e,sx_at.2.2.1];exact ⟨.int 3,rfl⟩) fun H5 i5=>skpI (opt i5)) fun H4 i4=>skpI (opt i4)
 have rest:∀ {H2},(enInv p a H0 d0 h0).i H2→enC (KF (n+3) false E Q) (fun _=>Q .none) [some (.ref p),some (.ref a),some (.dct g),none,none,none,none,none,none,none,none] H2:=fun {H2} i2=>by
  refine wA (P:=fun v=>∃s,v= .str s) i2 (fun Q H i q=>by
   obtain ⟨d,h1,h2,h3⟩:=(i:EnI p a H0 d0 H).hd
   obtain ⟨s,hs⟩:=six_name h2 (six_name hg ⟨"",rfl⟩)
   exact ⟨_,h1,mk195 ⟨_,h1,fdM_of hs (q _ _ i ⟨s,rfl⟩)⟩⟩) fun v H3 i3 ⟨s,hv⟩=>?_
  subst hv
  refine wI i3 (dEq (tk (m:=2) rfl (by decide) (by decide))) (fun H4 i4=>wSet (s:="Ff") (P:=fun v=>∃f:Int,0≤f∧v= .int f) i4 (fun Q' H i q=>⟨rfl,Nat.le_of_ble_eq_true rfl,dEach (I:=enInv p a H0 d0 h0) (R:=fun v=>∃x,v= .int x∧0≤x∧x≤1073741824) (fun x hx=>dTurn rfl (dAnd (dEq (dTake rfl rfl rfl (m:=4) (by decide) (by decide))) dYes) (dOneR fun Q H i q=>by
   obtain ⟨x,hx2,rfl⟩:=List.mem_map.mp (show x∈([0,2,14,15,16,17,18,21,25]:List Int).map MV.int from hx)
   obtain ⟨a1,a2,a3,a4⟩:=pow_ok x hx2
   exact ⟨.inl rfl,a1,a2,q _ H i ⟨_,rfl,a3,a4⟩⟩)) _ H i fun ys H2 i2 hy=>by
    obtain ⟨l,rfl,hl⟩:=map_ints hy.2
    have ll:(l.map MV.int).length≤9:=hy.1
    exact ⟨Nat.le_trans ll (Nat.le_of_ble_eq_true rfl),rfl,l,rfl,by rw [List.length_map] at ll;exact Nat.le_trans ll (by decide),hl,q _ H2 i2 ⟨_,sum_nn hl,rfl⟩⟩⟩) rfl rCst (in6 (k:="Ff") (by decide)) (fun v ⟨f,hf,e⟩=>by
   rw [e,sx_at.2.1];exact ⟨.int _,f,hf,rfl⟩) fun H5 i5=>skpI (loop i5)) fun H4 i4=>skpI (loop i4)
 refine wI i (dOr (dEq (tk (m:=3) rfl (by decide) (by decide))) (dOr (dAnd (dt (B:= !(dlook g (sK "FT")).isSome) fun Q H q=>q.now) (dAnd (dLt (tk (m:=6) rfl (by decide) (by decide))) dYes)) dNo)) (fun H1 i1=>wSet (s:="FT") (P:=fun v=>∃w∈words,v=nmv (Str.ofString w)) i1 (dNm rfl (dAt (m:=6) (xs:=[.str "Tx", .str "Ch", .str "Btn", .str "Btn", .str "Ch", .str "Sig"]) (fun Q H q=>q.now) (tk rfl (by decide) (by decide)) rfl (by decide)) fun v hv=>by
  obtain ⟨w,hw,rfl⟩:=six v hv
  exact ⟨w,hw,rfl⟩) rfl rCst (in6 (k:="FT") (by decide)) (fun v ⟨w,hw,e⟩=>by
  rw [e,sx_at.1];exact ⟨.name _,w,hw,rfl⟩) fun H2 i2=>skpI (rest i2)) fun H2 i2=>skpI (rest i2))
end
end Mine
end
section
namespace Mine
open PySem
noncomputable def subsOf {α:Type}:List α→List (List α)
 | []=>[[]]
 | x::xs=>subsOf xs ++ (subsOf xs).map (x:: ·)
theorem subs_all:∀st∈subsOf ["Off","x","y"],st∈subs:=by decide
theorem dEachS {p:Nat}{I:Inv p}{α:Type}{g:MV→Po (List MV)→Hp→Prop}{u:α→MV}{zs:List α}(h:∀x∈zs,Dw I (g (u x)) fun ys=>ys= []∨ys= [u x]):Dw I (eachM g (zs.map u)) fun ys=>∃st∈subsOf zs,ys=st.map u:=by
 induction zs with
 | nil=>exact fun Q H i q=>q _ H i ⟨[], .head _,rfl⟩
 | cons x zs ih=>exact fun Q H i q=>h x (.head _) _ H i fun ys H2 i2 hy=>ih (fun y hy=>h y (.tail _ hy)) _ H2 i2 fun zs' H3 i3 ⟨st,hs,e⟩=>q _ H3 i3 (by
   subst e
   rcases hy with rfl | rfl
   ·exact ⟨st,List.mem_append_left _ hs,rfl⟩
   ·exact ⟨x::st,List.mem_append_right _ (List.mem_map.mpr ⟨st,hs,rfl⟩),rfl⟩)
noncomputable def cellInv (p a:Nat)(H0:Hp)(d:Dict)(h0:a≠p):Inv p:=⟨fun H=>PoolAt p H∧H[a]?=some (cD d)∧Chg [p,a] H0 H,fun i=>i.1,fun i c po=>⟨po,c.get i.2.1 fun w=>h0 (List.mem_singleton.mp w),i.2.2.sub c fun x hx=> .inl (by rw [List.mem_singleton.mp hx];exact .head _)⟩⟩
noncomputable def apV (st:List String):MV:= .dct [(sK "N", .dct (stD st))]
noncomputable def lookD (d:Dict)(st:List String)(s:MV):Dict:=dput (dput d (sK "AP") (apV st)) (sK "AS") (.inst 195 [s])
theorem stD_nd:∀st∈subs,(st.map fun k=>sK k).Nodup:=by decide +kernel
theorem stD_nd' {st:List String}(h:st∈subs):NoDupK (stD st):=by
 unfold NoDupK stD
 rw [List.map_map];exact stD_nd st h
theorem apV_plain {st:List String}(h:st∈subs):PlainV 3 (apV st):= .dct (show 1 < 60 by decide) (List.nodup_cons.mpr ⟨List.not_mem_nil,List.nodup_nil⟩) (fun e he=>by rw [List.mem_singleton.mp he];exact ⟨_,rfl⟩) fun e he=>by
 rw [List.mem_singleton.mp he]
 refine .dct (by unfold stD;rw [List.length_map];exact Nat.lt_of_le_of_lt (sub_ok st h).1 (by decide)) (stD_nd' h) (fun e he=>?_) fun e he=>?_
 ·obtain ⟨k,_,rfl⟩:=List.mem_map.mp he
  exact ⟨_,rfl⟩
 ·obtain ⟨k,_,rfl⟩:=List.mem_map.mp he
  exact .int 0
section
variable {p a n j:Nat}{H:Hp}{d:Dict}{E:Hp→Prop}{Q:Po MV}{K:Kx}{l:Loc}{M:Loc→Hp→Prop}{b:Cs}{e:Cd MV}{P:MV→Prop}{k:String}{I:Inv p}
theorem wIx (i:I.i H)(h:Dw I (e K l) P)(hc:∀ {H},I.i H→H[a]?=some (cD d))(e1:lat l j=some (.ref a))(hl:d.length < sizeMost)(q:∀v H',I.i H'→P v→b K M l (H'.set a (cD (dput d (sK k) v)))):sq (ixS (lv j) (cst (.str k)) e) b K M l H:=h _ H i fun v H2 i2 pv=>by
 show lv j K l (fun u h=>setM u (.str k) v h (b K M l)) H2
 exact lvE K e1 ⟨_,hc i2,hl,q v H2 i2 pv⟩
theorem cell_put {H0:Hp}{d':Dict}(h0:a≠p)(i:(cellInv p a H0 d h0).i H):(cellInv p a H0 d' h0).i (H.set a (cD d')):=⟨i.1.imp fun _ h=>⟨at_ne h.1 h0,h.2⟩,at_set i.2.1,i.2.2.st (.inl (.tail _ (.head _)))⟩
theorem len_of {n:Nat}(h:d.length≤n)(hn:n < 100000):d.length < sizeMost:=Nat.lt_of_le_of_lt h (Nat.lt_of_lt_of_le hn (Nat.le_refl _))
theorem sp_llook (h0:a≠p)(po:PoolAt p H)(ha:H[a]?=some (cD d))(hd:d.length≤100)(q:∀st s H',st∈subs→isStr s=true→PoolAt p H'→H'[a]?=some (cD (lookD d st s))→Chg [p,a] H H'→Q .none H'):cl (n+2) false E 720 [.ref p, .ref a] Q H:=in720 (by
 refine wA (I:=cellInv p a H d h0) (P:=fun v=>∃st∈subs,v= .lst (st.map strV)) ⟨po,ha, .of .rfl'⟩ (fun Q H i q=>⟨rfl,Nat.le_of_ble_eq_true rfl,dEachS (I:=cellInv p a _ d h0) (u:=strV) (zs:=["Off","x","y"]) (fun x hx=>dTurnP rfl (dAnd (dEq (dTake rfl rfl rfl (m:=2) (by decide) (by decide))) dYes) (fun Q H i q=>q _ H i (.inr rfl)) (.inl rfl)) _ H i fun ys H2 i2 ⟨st,hs,e⟩=>?_⟩) fun v H1 i1 ⟨st,hs,hv⟩=>?_
 ·have hs:=subs_all st hs
  exact ⟨by rw [e,List.length_map];exact Nat.le_trans (sub_ok st hs).1 (Nat.le_of_ble_eq_true rfl),q _ H2 i2 ⟨st,hs,by rw [e]⟩⟩
 ·subst hv
  have l3:∀ {f:String→MV},(st.map f).length≤sizeMost:=fun {f}=>by rw [List.length_map];exact Nat.le_trans (sub_ok st hs).1 (Nat.le_of_ble_eq_true rfl)
  have ls:(stD st).length≤sizeMost:=by unfold stD;rw [List.length_map];exact Nat.le_trans (sub_ok st hs).1 (Nat.le_of_ble_eq_true rfl)
  have dn:dputs [] (stD st) =stD st:=dputs_new (es:=[]) (stD_nd' hs)
  have ap:Rd vAll (dctC false [((cst (.str "N")),(blt false .dict [(lcp false (icomp [none,none] (.one 1) (iover (lv 2)) yes (ione (tupC [(lv 1),(cst (.int 0))]))))]))] (KF (n+1) false E Q) [some (.ref p),some (.ref a),some (.lst (st.map strV)),none,none,none]) (apV st):=fun Q H q=>⟨l3,(each_map (V:=vAll) (u:=strV) (g:=fun k=>[.tup [strV k, .int 0]]) fun k _ Q H q=>q.now).run trivial fun H2 x2=>by
   rw [flat_one]
   exact ⟨l3,rfl,stD st,by unfold stD;rw [List.map_map];rfl,ls,dn.symm▸ls,show 1≤sizeMost from Nat.le_of_ble_eq_true rfl,dn.symm▸q.ex x2⟩⟩
  refine wIx i1 (dRd (V:=vAll) ap (fun _=>trivial) (P:=(· =apV st)) rfl) (fun i=>i.2.1) rfl (len_of hd (by decide)) fun v H2 i2 hv=>?_
  subst hv
  refine wIx (P:=fun v=>∃s,isStr s=true∧v= .inst 195 [s]) (cell_put h0 i2) (dNm rfl (dAt (m:=3) (xs:=["Off","x","y"].map strV) (fun Q H q=>q.now) (dTake rfl rfl rfl (by decide) (by decide)) rfl (by decide)) fun v hv=>⟨v,?_,rfl⟩) (fun i=>i.2.1) rfl (len_of (Nat.le_trans (dput_len ..) (Nat.add_le_add_right hd 1)) (by decide)) fun v H3 i3 ⟨s,hs2,hv⟩=>?_
  ·obtain ⟨k,_,rfl⟩:=List.mem_map.mp hv
   rfl
  ·subst hv
   have i4:=cell_put (d':=lookD d st s) h0 i3
   exact q st s _ hs hs2 i4.1 i4.2.1 i4.2.2)
end
end Mine
end
section
namespace Mine
open PySem
section
variable {T:Tab}{k:Int}{d:Dict}
theorem num_some (h:NumT T)(h1:1≤k)(h2:k≤T.length):∃d,tget T k=some d:=by
 have:k∈T.map (·.1):=by
  rw [h]
  exact List.mem_map.mpr ⟨(k - 1).toNat,List.mem_range.mpr (by omega),by omega⟩
 obtain ⟨p,hp,rfl⟩:=List.mem_map.mp this
 exact ⟨_,tget_of_mem (noDup_num h) hp⟩
theorem num_none (h:NumT T):tget T ((T.length:Int) +1) =none:=by
 cases hd:tget T ((T.length:Int) +1) with
 | none=>rfl
 | some d=>
  have:(T.length:Int) +1∈T.map (·.1):=List.mem_map.mpr ⟨_,tget_mem hd,rfl⟩
  rw [h] at this
  obtain ⟨i,hi,e⟩:=List.mem_map.mp this
  have:=List.mem_range.mp hi
  omega
theorem num_app (h:NumT T):NumT (T ++ [((T.length:Int) +1,d)]):=by
 unfold NumT
 rw [List.map_append,h,List.length_append,List.length_singleton,List.range_succ,List.map_append]
 rfl
theorem tget_app {k':Int}:tget (T ++ [(k,d)]) k'= (tget T k').or (if k=k' then some d else none):=by
 induction T with
 | nil=>rfl
 | cons p T ih=>
  rw [List.cons_append]
  by_cases q:p.1=k'
  ·rw [tget_t q,tget_t q];rfl
  ·rw [tget_f q,tget_f q,ih]
theorem tabE_app:tabE (T ++ [(k,d)]) =tabE T ++ [(.inl k, .tup [.int 0, .dct d])]:=List.map_append
end
noncomputable def addT:Cd Bool:=(tCmp .in (lv 2) (fd 375 0 (lv 0)))
noncomputable def addB:Cs:=(sq (asS (.one 2) (bin .add (lv 2) (cst (.int 1)))) skp)
section
variable {t tr n:Nat}{T:Tab}{H:Hp}{d:Dict}{hd:Bool}{E:Hp→Prop}{Q:Po MV}
theorem add_loop {K:Kx}{N:Loc→Hp→Prop}{v:MV}(h:H[t]?=some (cD (tabE T)))(hn:NumT T)(q:N [some (shv t tr),some v,some (.int ((T.length:Int) +1)),none] H):∀(r fuel:Nat)(k:Int),r+1≤fuel→k+r= (T.length:Int) +1→1≤k→whl addT addB K N fuel [some (shv t tr),some v,some (.int k),none] H:=by
 intro r
 induction r with
 | zero=>
  intro fuel k hf hk h1
  have hk:k= (T.length:Int) +1:=(Int.add_zero k).symm.trans hk
  subst hk
  cases fuel with
  | zero=>cases hf
  | succ fuel=>exact ⟨_,h,bF (show (dlook (tabE T) (.inl _)).isSome=false by rw [look_tab,num_none hn];rfl) q⟩
 | succ r ih=>
  intro fuel k hf hk h1
  cases fuel with
  | zero=>cases hf
  | succ fuel=>
   obtain ⟨d,hd⟩:=num_some hn h1 (by omega)
   exact ⟨_,h,bT (show (dlook (tabE T) (.inl k)).isSome=true by rw [look_tab,hd];rfl) (ih fuel (k+1) (Nat.le_of_succ_le_succ hf) (by omega) (by omega))⟩
theorem sp_add (h:H[t]?=some (cD (tabE T)))(hn:NumT T)(hl:T.length < 900)(q:Q (rf ((T.length:Int) +1)) (H.set t (cD (tabE (T ++ [((T.length:Int) +1,d)]))))):cl (n+2) hd E 346 [shv t tr, .dct d] Q H:=in346 (by
 have e:dput (tabE T) (.inl ((T.length:Int) +1)) (.tup [.int 0, .dct d]) =tabE (T ++ [((T.length:Int) +1,d)]):=by
  rw [tabE_app]
  exact dput_new (by rw [look_tab,num_none hn];rfl)
 refine add_loop (K:=⟨cl (n+1),noE,hd,Q,_⟩) h hn ?_ T.length 1000 1 (by omega) (Int.add_comm ..) (Int.le_refl _)
 exact ⟨_,h,Nat.lt_of_le_of_lt (Nat.le_of_eq (List.length_map _)) (Nat.lt_trans hl (Nat.lt_of_lt_of_le (by decide:900 < 100000) (Nat.le_refl _))),e.symm▸mk266 q⟩)
end
structure Gt (t tr:Nat)(T:Tab)(H:Hp):Prop where
 t:H[t]?=some (cD (tabE T))
 tr:H[tr]?=some (cD [])
 num:NumT T
 ok:∀q∈T,DOk q.2
section
variable {t tr:Nat}{T T' T1 T2:Tab}{H H':Hp}{d:Dict}{S:List Nat}
theorem Gt.chg (g:Gt t tr T H)(e:Chg S H H')(h1:t∉S)(h2:tr∉S):Gt t tr T H':=⟨e.get g.t h1,e.get g.tr h2,g.num,g.ok⟩
theorem Gt.ex (g:Gt t tr T H)(e:Ext H H'):Gt t tr T H':=⟨e.get g.t,e.get g.tr,g.num,g.ok⟩
theorem Gt.app (g:Gt t tr T H)(h0:t≠tr)(hd:DOk d):Gt t tr (T ++ [((T.length:Int) +1,d)]) (H.set t (cD (tabE (T ++ [((T.length:Int) +1,d)])))):=⟨at_set g.t,at_ne g.tr h0,num_app g.num,fun q hq=>(List.mem_append.mp hq).elim (g.ok q) fun w=>by rw [List.mem_singleton.mp w];exact hd⟩
noncomputable def Agr (T T':Tab):Prop:=∀k:Int,k≤T.length→tget T' k=tget T k
theorem Agr.rfl':Agr T T:=fun _ _=>rfl
theorem Agr.to (a:Agr T T1)(b:Agr T1 T2)(h:T.length≤T1.length):Agr T T2:=fun k hk=>(b k (Int.le_trans hk (Int.ofNat_le.mpr h))).trans (a k hk)
theorem agr_app:Agr T (T ++ [((T.length:Int) +1,d)]):=fun k hk=>by
 rw [tget_app,if_neg (show ¬ (T.length:Int) +1=k by omega)]
 cases tget T k <;> rfl
theorem tget_new (h:NumT T):tget (T ++ [((T.length:Int) +1,d)]) ((T.length:Int) +1) =some d:=by
 rw [tget_app,num_none h,if_pos rfl];rfl
theorem asc_snoc {ws:List Int}:∀ {lo hi:Int},Asc lo hi ws→Asc lo (hi+1) (ws ++ [hi]):=by
 induction ws with
 | nil=>exact fun {lo hi} h=>⟨h.symm,congrArg (· +1) h⟩
 | cons w ws ih=>exact fun h=>⟨h.1,ih h.2⟩
theorem wsts_to {ws:List Int}:∀ {ss:List (List String)},(∀w∈ws,tget T' w=tget T w)→WSts T ws ss→WSts T' ws ss:=by
 induction ws with
 | nil=>exact fun {ss} _ h=>by cases ss <;> exact h
 | cons w ws ih=>
  intro ss h hs
  cases ss with
  | nil=>exact hs
  | cons s ss=>
   obtain ⟨⟨d,h1,h2⟩,hs⟩:=hs
   exact ⟨⟨d,(h w (.head _)).trans h1,h2⟩,ih (fun w hw=>h w (.tail _ hw)) hs⟩
theorem wsts_snoc {w:Int}{s:List String}(h2:∃d,tget T w=some d∧ApOk d s){ws:List Int}:∀ {ss:List (List String)},WSts T ws ss→WSts T (ws ++ [w]) (ss ++ [s]):=by
 induction ws with
 | nil=>
  intro ss h
  cases ss with
  | nil=>exact ⟨h2,trivial⟩
  | cons _ _=>exact h.elim
 | cons x ws ih=>
  intro ss h
  cases ss with
  | nil=>exact h.elim
  | cons y ss=>exact ⟨h.1,ih h.2⟩
theorem asc_mem {ws:List Int}:∀ {lo hi:Int},Asc lo hi ws→∀w∈ws,lo≤w∧w < hi:=by
 have le:∀ {ws:List Int}{lo hi:Int},Asc lo hi ws→lo≤hi:=fun {ws}=>by
  induction ws with
  | nil=>exact fun h=>Int.le_of_eq h
  | cons w ws ih=>exact fun h=>Int.le_trans (Int.le_of_lt (Int.lt_succ _)) (ih h.2)
 induction ws with
 | nil=>exact fun _ w hw=>nomatch hw
 | cons x ws ih=>
  intro lo hi h w hw
  rcases List.mem_cons.mp hw with rfl | hw
  ·exact ⟨Int.le_of_eq h.1.symm,by rw [h.1];exact Int.lt_of_lt_of_le (Int.lt_succ _) (le h.2)⟩
  ·exact ⟨Int.le_trans (Int.le_of_lt (Int.lt_succ _)) (ih h.2 w hw).1,(ih h.2 w hw).2⟩
end
structure WdP (T T':Tab)(ws:List Int)(ss:List (List String)):Prop where
 len:T'.length=T.length+ws.length
 agr:Agr T T'
 asc:Asc ((T.length:Int) +1) ((T'.length:Int) +1) ws
 sts:WSts T' ws ss
 noT:∀w∈ws,∃dw,tget T' w=some dw∧dlook dw (sK "T") =none
inductive WgQ (T:Tab)(home:Int)(d:Dict):Tab→Dict→List Int→List (List String)→Prop
 | own (st:List String) (s:MV):st∈subs→isStr s=true→WgQ T home d T (dput (lookD d st s) (sK "Subtype") (nmv "Widget")) [home] [st]
 | no (st:List String) (s:MV):st∈subs→isStr s=true→WgQ T home d T (lookD d st s) [] []
 | kids (T':Tab) (wids:List Int) (sts:List (List String)):1≤wids.length→wids.length≤3→WdP T T' wids sts→WgQ T home d T' (dput d (sK "Kids") (.lst (wids.map rf))) wids sts
end Mine
end
section
namespace Mine
open PySem
noncomputable def wdE:Cs:=(sq (ixS (lv 3) (cst (.str "Kids")) (blt false .list [(lv 5)])) (sq (retS (frL (lv 5))) skp))
inductive WdI (t tr p c:Nat)(T:Tab)(H0:Hp)(L:Option MV→Option MV→Loc)(m:Nat)(xs:List MV)(l:Loc)(H:Hp):Prop
 | mk (T':Tab)(ws:List Int)(ss:List (List String))(u w:Option MV):Gt t tr T' H→PoolAt p H→H[c]?=some (cL (ws.map rf))→Chg [t,p] H0 H→WdP T T' ws ss→ws.length+xs.length=m→l=L u w→WdI t tr p c T H0 L m xs l H
theorem WdP.nil {T:Tab}:WdP T T [] []:=⟨rfl, .rfl',rfl,trivial,nofun⟩
theorem WdP.snoc {T T':Tab}{ws:List Int}{ss:List (List String)}{d:Dict}{st:List String}(h:WdP T T' ws ss)(hn:NumT T')(h1:ApOk d st)(h2:dlook d (sK "T") =none):WdP T (T' ++ [((T'.length:Int) +1,d)]) (ws ++ [(T'.length:Int) +1]) (ss ++ [st]):=by
 have new:=tget_new (d:=d) hn
 have old:∀w∈ws,tget (T' ++ [((T'.length:Int) +1,d)]) w=tget T' w:=fun w hw=>agr_app w (Int.le_of_lt_add_one (asc_mem h.asc w hw).2)
 have el:(((T' ++ [((T'.length:Int) +1,d)]).length:Nat):Int) +1= (T'.length:Int) +1+1:=by rw [List.length_append];rfl
 refine ⟨by rw [List.length_append,List.length_append,h.len];rfl,h.agr.to agr_app (by rw [h.len];exact Nat.le_add_right _ _),by rw [el];exact asc_snoc h.asc,wsts_snoc ⟨d,new,h1⟩ (wsts_to old h.sts),fun w hw=>?_⟩
 rcases List.mem_append.mp hw with hw | hw
 ·obtain ⟨dw,a,b⟩:=h.noT w hw
  exact ⟨dw,(old w hw).trans a,b⟩
 ·rw [List.mem_singleton.mp hw];exact ⟨d,new,h2⟩
noncomputable def widD (home:Int):Dict:=[(sK "Subtype",nmv "Widget"),(sK "Parent",rf home)]
theorem widD_ok {home:Int}{st:List String}{s:MV}(h:st∈subs)(hs:isStr s=true):DOk (lookD (widD home) st s)∧ApOk (lookD (widD home) st s) st∧dlook (lookD (widD home) st s) (sK "T") =none:=by
 obtain ⟨s,rfl⟩:=str_of hs
 have a:DOk (widD home):=⟨show [sK "Subtype",sK "Parent"].Nodup by decide,fun e he=>by
  rcases List.mem_cons.mp he with rfl | he
  ·exact inK (by decide)
  ·rw [List.mem_singleton.mp he];exact inK (by decide),fun e he=>by
  rcases List.mem_cons.mp he with rfl | he
  ·exact .name _
  ·rw [List.mem_singleton.mp he];exact .ref _⟩
 exact ⟨(a.put (inK (by decide)) (apV_plain h)).put (inK (by decide)) (.name s),⟨(put_other (by decide)).trans put_same,h⟩,(put_other (by decide)).trans ((put_other (by decide)).trans (look_none.mpr fun e he w=>by
  rcases List.mem_cons.mp he with rfl | he
  ·exact absurd w (show ¬ sK "Subtype"=sK "T" by decide)
  ·rw [List.mem_singleton.mp he] at w;exact absurd w (show ¬ sK "Parent"=sK "T" by decide)))⟩
theorem dictW {a b:MV}:dputs [] [(sK "Subtype",a),(sK "Parent",b)] = ([(sK "Subtype",a),(sK "Parent",b)]:Dict):=by
 show dput [(sK "Subtype",a)] (sK "Parent") b=_
 exact dput_new (look_f (e:=(sK "Subtype",a)) (show ¬ sK "Subtype"=sK "Parent" by decide))
theorem alD {es es':Dict}{Q:Po MV}{h:Hp}(e:dputs [] es=es')(q:Q (.ref h.length) (h ++ [cD es'])):alloc (.dict (dputs [] es)) Q h:=by
 rw [e];exact q
theorem sAppG {K:Kx}{l:Loc}{M:Loc→Hp→Prop}{b:Cs}{e:Cd MV}{i c:Nat}{acc:List MV}{H:Hp}(e1:lat l i=some (.ref c))(hc:H[c]?=some (cL acc))(h:e K l (fun x=>prim false K.hd .append [.ref c,x] fun _=>b K M l) H):sq (exS (mth false .list .append (lv i) [e])) b K M l H:=by
 show lv i K l (fun u h=>hasKnd .list u h (e K l (fun x=>prim false K.hd .append [u,x] fun _=>b K M l) h)) H
 exact lvE K e1 ⟨_,hc,h⟩
section
variable {t tr p a n:Nat}{T:Tab}{H:Hp}{d:Dict}{home:Int}{E:Hp→Prop}{Q:Po MV}
theorem sp_lwidgets (h0:t≠tr)(h1:t≠p)(h2:tr≠p)(a1:a≠t)(a2:a≠tr)(ha:a≠p)(g:Gt t tr T H)(po:PoolAt p H)(hd:H[a]?=some (cD d))(hdl:d.length≤20)(hsub:dlook d (sK "Subtype") =none)(hT:T.length < 700)
  (q:∀T' d' wids sts H',WgQ T home d T' d' wids sts→Gt t tr T' H'→PoolAt p H'→H'[a]?=some (cD d')→Chg [t,p,a] H H'→Q (.lst (wids.map rf)) H'):cl (n+3) false E 727 [.ref p,shv t tr,rf home, .ref a] Q H:=in727 (by
 have sub2:∀ {H1 H2},Chg [p,a] H1 H2→Chg [t,p,a] H H1→Chg [t,p,a] H H2:=fun c c0=>c0.sub c fun i hi=> .inl (.tail _ hi)
 refine wA (I:=cellInv p a H d ha) ⟨po,hd, .of .rfl'⟩ (dTake rfl rfl rfl (m:=4) (by decide) (by decide)) fun v H1 i1 ⟨k,hv,hk⟩=>?_
 subst hv
 have tS:t∉ [p,a]:=fun h=>by
  rcases List.mem_cons.mp h with h | h
  ·exact h1 h
  ·exact a1 (List.mem_singleton.mp h).symm
 have rS:tr∉ [p,a]:=fun h=>by
  rcases List.mem_cons.mp h with h | h
  ·exact h2 h
  ·exact a2 (List.mem_singleton.mp h).symm
 have g1:=g.chg i1.2.2 tS rS
 refine sI0 (V:=vAll) (c:=(k:Int) == 0) trivial (rCmp (rLv rfl) rCst fun _ _ q=>q) (fun hz H2 x2=>?_) fun hz H2 x2=>?_
 ·refine sp_llook ha (i1.1.ex x2) (x2.get i1.2.1) (Nat.le_trans hdl (by decide)) fun st s H3 hs hst p3 h3 c3=>?_
  have c3:Chg [p,a] H H3:=(i1.2.2.ex x2).tr c3
  have no:dlook (lookD d st s) (sK "Subtype") =none:=(put_other (by decide)).trans ((put_other (by decide)).trans hsub)
  have ll:(lookD d st s).length≤22:=Nat.le_trans (dput_len ..) (Nat.add_le_add_right (Nat.le_trans (dput_len ..) (Nat.add_le_add_right hdl 1)) 1)
  refine wI (I:=cellInv p a H (lookD d st s) ha) ⟨p3,h3,c3⟩ (dEq (dTake rfl rfl rfl (m:=2) (by decide) (by decide))) (fun H4 i4=>?_) fun H4 i4=>skpI ?_
  ·refine sIx (V:=vAll) (v:=nmv "Widget") trivial (fun Q H q=>mk195 q.now) (rLv rfl) i4.2.1 (len_of ll (by decide)) fun H5 x5=>skpI ?_
   have h5:(H5.set a (cD (dput (lookD d st s) (sK "Subtype") (nmv "Widget"))))[a]?=some (cD (dput (lookD d st s) (sK "Subtype") (nmv "Widget"))):=at_set (x5.get i4.2.1)
   have c5:Chg [p,a] H (H5.set a (cD (dput (lookD d st s) (sK "Subtype") (nmv "Widget")))):=(i4.2.2.ex x5).st (.inl (.tail _ (.head _)))
   exact ⟨_,h5,bT (show (dlook (dput (lookD d st s) (sK "Subtype") (nmv "Widget")) (sK "Subtype")).isSome=true by rw [put_same];rfl) ⟨show 1≤sizeMost from Nat.le_of_ble_eq_true rfl,q T _ [home] [st] _ (.own st s hs hst) (g.chg c5 tS rS) ((i4.1.ex x5).imp fun _ h=>⟨at_ne h.1 ha,h.2⟩) h5 (sub2 c5 (.of .rfl'))⟩⟩
  ·exact ⟨_,i4.2.1,bF (show (dlook (lookD d st s) (sK "Subtype")).isSome=false by rw [no];rfl) ⟨Nat.zero_le _,q T _ [] [] _ (.no st s hs hst) (g.chg i4.2.2 tS rS) i4.1 i4.2.1 (sub2 i4.2.2 (.of .rfl'))⟩⟩
 ·have k0:k≠0:=fun w=>by rw [w] at hz;cases hz
  refine sNewL ?_
  have xa:=x2.al (c:=cL [])
  have c2:Chg [p,a] H (H2 ++ [cL []]):=i1.2.2.ex xa
  have lt2:=at_lt (x2.get i1.2.1)
  have ct:H2.length≠t:=Nat.ne_of_gt (at_lt (x2.get g1.t))
  have cr:H2.length≠tr:=Nat.ne_of_gt (at_lt (x2.get g1.tr))
  have cp:H2.length≠p:=(i1.1.ex x2).elim fun _ h=>Nat.ne_of_gt (at_lt h.1)
  refine sFor (V:=vAll) (xs:=(List.range k).map natV) (WdI t tr p H2.length T H2 (fun u w=>[some (.ref p),some (shv t tr),some (rf home),some (.ref a),some (.int k),some (.ref H2.length),u,w,none,none,none,none,none]) k) trivial (fun Q H q=>⟨rfl,Int.ofNat_le.mpr (Nat.le_trans (Nat.le_of_lt hk) (Nat.le_of_ble_eq_true rfl)),Int.le_trans (by decide) (Int.natCast_nonneg k),q.now⟩) (fun H3 x3=> .mk T [] [] none none (g1.ex (xa.tr x3)) (i1.1.ex (xa.tr x3)) (x3.get at_new) (.of (Ext.rfl'.al.tr x3)) .nil (by rw [List.length_map,List.length_range];exact Nat.zero_add k) rfl) (fun {x xs l H'} i B N' hN=>?_) fun l H' i=>?_
  ·obtain ⟨T',ws,ss,u,w,g',p',hc',c',wd,hl,rfl⟩:=i
   rw [List.length_cons] at hl
   have a7t:H'.length≠t:=Nat.ne_of_gt (at_lt g'.t)
   have a7r:H'.length≠tr:=Nat.ne_of_gt (at_lt g'.tr)
   have a7c:H'.length≠H2.length:=Nat.ne_of_gt (at_lt hc')
   have a7p:H'.length≠p:=p'.elim fun _ h=>Nat.ne_of_gt (at_lt h.1)
   refine mk195 ⟨show 2≤sizeMost from Nat.le_of_ble_eq_true rfl,bif_t rfl (alD dictW (putO ?_))⟩
   refine sp_llook a7p (p'.ex Ext.rfl'.al) at_new (show 2≤100 by decide) fun st s H8 hs hst p8 h8 c8=>?_
   have n8:∀ {i},i≠p→H'.length≠i→i∉ [p,H'.length]:=fun a b h=>by
    rcases List.mem_cons.mp h with h | h
    ·exact a h
    ·exact b (List.mem_singleton.mp h).symm
   have g8:=(g'.ex (Ext.rfl'.al (c:=cD (widD home)))).chg c8 (n8 h1 a7t) (n8 h2 a7r)
   have hc8:H8[H2.length]?=some (cL (ws.map rf)):=c8.get (at_app hc') (n8 cp a7c)
   obtain ⟨o1,o2,o3⟩:=widD_ok (home:=home) hs hst
   have Tl:T'.length < 900:=by rw [wd.len];omega
   have ge:H2.length≤H'.length:=c'.le
   have c8':Chg [t,p] H2 H8:=(c'.al).sub c8 fun i hi=>by
    rcases List.mem_cons.mp hi with rfl | hi
    ·exact .inl (.tail _ (.head _))
    ·rw [List.mem_singleton.mp hi];exact .inr ge
   have g9:Gt t tr T' (H8.set H'.length ⟨.frz, .dict (lookD (widD home) st s)⟩):=⟨at_ne g8.t a7t,at_ne g8.tr a7r,g8.num,g8.ok⟩
   refine sAppG rfl hc8 ⟨_,_,h8,trivial,sp_add g9.t g9.num Tl ⟨_,at_ne (at_ne hc8 a7c) ct.symm,by rw [List.length_map];exact Nat.lt_of_le_of_lt (show ws.length≤3 by omega) (Nat.lt_of_lt_of_le (by decide:3 < 100000) (Nat.le_refl _)),hN _ _ (.mk _ (ws ++ [(T'.length:Int) +1]) (ss ++ [st]) _ _ ?_ ?_ ?_ ((((c8'.st (.inr ge)).st (.inl (.head _))).st (.inr (Nat.le_refl _)))) (wd.snoc g'.num o2 o3) ?_ rfl)⟩⟩
   ·have:=g9.app h0 o1
    exact ⟨at_ne this.t ct,at_ne this.tr cr,this.num,this.ok⟩
   ·exact p8.imp fun _ h=>⟨at_ne (at_ne (at_ne h.1 a7p) h1) cp,h.2⟩
   ·rw [List.map_append];exact at_set (at_ne (at_ne hc8 a7c) ct.symm)
   ·rw [List.length_append,List.length_singleton];omega
  ·obtain ⟨T',ws,ss,u,w,g',p',hc',c',wd,hl,rfl⟩:=i
   have hl:ws.length=k:=hl
   have ha':H'[a]?=some (cD d):=c'.get (x2.get i1.2.1) fun h=>by
    rcases List.mem_cons.mp h with h | h
    ·exact a1 h
    ·exact ha (List.mem_singleton.mp h)
   have wl:(ws.map rf).length≤sizeMost:=by rw [List.length_map,hl];exact Nat.le_trans (Nat.le_of_lt hk) (Nat.le_of_ble_eq_true rfl)
   refine sIx (V:=cellV H2.length (cL (ws.map rf))) (v:= .lst (ws.map rf)) hc' (fun Q H q=>⟨rfl,_,q.1,wl,q.now⟩) (rLv rfl) ha' (len_of hdl (by decide)) fun H3 x3=>sFrz rfl (at_ne (x3.get hc') (Nat.ne_of_lt lt2)) (q T' _ ws ss _ (.kids T' ws ss (by rw [hl];exact Nat.pos_of_ne_zero k0) (by rw [hl];exact Nat.le_of_lt_succ hk) wd) ?_ ?_ ?_ ?_)
   ·exact ⟨at_ne (at_ne (x3.get g'.t) a1) ct,at_ne (at_ne (x3.get g'.tr) a2) cr,g'.num,g'.ok⟩
   ·exact (p'.ex x3).imp fun _ h=>⟨at_ne (at_ne h.1 ha) cp,h.2⟩
   ·exact at_ne (at_set (x3.get ha')) (Nat.ne_of_gt lt2)
   ·exact (((((sub2 i1.2.2 (.of .rfl')).ex x2).sub c' fun i hi=> .inl (by
     rcases List.mem_cons.mp hi with rfl | hi
     ·exact .head _
     ·rw [List.mem_singleton.mp hi];exact .tail _ (.head _))).ex x3).st (.inl (.tail _ (.tail _ (.head _))))).st (.inr (Nat.le_trans (i1.2.2.ex x2).le (Nat.le_refl _))))
end
end Mine
end
section
namespace Mine
open PySem
noncomputable def AgrOn (lo hi:Int)(T T':Tab):Prop:=∀k:Int,lo≤k→k < hi→tget T' k=tget T k
section
variable {T T':Tab}{lo hi lo' hi' k:Int}{r:Rw}
theorem AgrOn.sub (h:AgrOn lo hi T T')(h1:lo≤lo')(h2:hi'≤hi):AgrOn lo' hi' T T':=fun k a b=>h k (Int.le_trans h1 a) (Int.lt_of_lt_of_le b h2)
theorem Agr.on (h:Agr T T'):AgrOn lo ((T.length:Int) +1) T T':=fun k _ b=>h k (Int.le_of_lt_add_one b)
theorem LeafW.cong {home:Int}{head:Dict}{wids:List Int}(h:AgrOn lo hi T T')(w:LeafW T lo hi home head wids):LeafW T' lo hi home head wids:=by
 cases w with
 | kids a b c d e=>
  exact .kids a b c d fun w hw=>by
   obtain ⟨dw,e1,e2⟩:=e w hw
   obtain ⟨b1,b2⟩:=asc_mem c w hw
   exact ⟨dw,(h w (Int.le_of_lt b1) b2).trans e1,e2⟩
 | lone a b c d=>exact .lone a b c d
 | no a b c d=>exact .no a b c d
theorem WL.cong {P P':Int→Int→Int→List Rw→Prop}(hle:∀lo hi k rs,P lo hi k rs→lo+1≤hi){ks:List Int}:∀ {lo:Int}{rs:List Rw},(∀lo' hi' k rs,lo≤lo'→hi'≤hi→P lo' hi' k rs→P' lo' hi' k rs)→WL P lo hi ks rs→WL P' lo hi ks rs:=by
 induction ks with
 | nil=>exact fun _ h=>h
 | cons k ks ih=>exact fun hP ⟨mid,rs1,rs2,h1,h2,h3⟩=>⟨mid,rs1,rs2,hP _ _ _ _ (Int.le_refl _) (WL.le hle h2) h1,ih (fun lo' hi' k rs x y p=>hP lo' hi' k rs (Int.le_trans (Int.le_trans (Int.le_of_lt (Int.lt_succ _)) (hle _ _ _ _ h1)) x) y p) h2,h3⟩
theorem WL.starts {P:Int→Int→Int→List Rw→Prop}(hle:∀lo hi k rs,P lo hi k rs→lo+1≤hi)(hk:∀lo hi k rs,P lo hi k rs→k=lo){ks:List Int}:∀ {lo:Int}{rs:List Rw},WL P lo hi ks rs→∀k∈ks,lo≤k∧k < hi:=by
 induction ks with
 | nil=>exact fun _ k h=>nomatch h
 | cons x ks ih=>
  intro lo rs ⟨mid,rs1,rs2,h1,h2,h3⟩ k hm
  have a:=hle _ _ _ _ h1
  rcases List.mem_cons.mp hm with rfl | hm
  ·rw [hk _ _ _ _ h1];exact ⟨Int.le_refl _,Int.lt_of_lt_of_le (Int.lt_succ _) (Int.le_trans a (WL.le hle h2))⟩
  ·exact ⟨Int.le_trans (Int.le_trans (Int.le_of_lt (Int.lt_succ _)) a) (ih h2 k hm).1,(ih h2 k hm).2⟩
theorem walks_at {d:Nat}{home:Int}{above name:MV}{given:Dict}{rs:List Rw}(h:Walks T d lo hi home above name given rs):home=lo:=by
 cases d with
 | zero=>exact h.elim
 | succ d=>
  obtain ⟨_,_,nd,_⟩:=h
  exact nd.lo
theorem Walks.cong {d:Nat}:∀ {lo hi home:Int}{above name:MV}{given:Dict}{rs:List Rw},AgrOn lo hi T T'→Walks T d lo hi home above name given rs→Walks T' d lo hi home above name given rs:=by
 induction d with
 | zero=>exact fun _ h=>h.elim
 | succ d ih=>
  intro lo hi home above name given rs hA w
  have hlt:=walks_lt w
  obtain ⟨head,part,nd,h⟩:=w
  have lt:lo < hi:=Int.lt_of_lt_of_le (Int.lt_succ _) hlt
  refine ⟨head,part,{nd with at_:=(hA home (Int.le_of_eq nd.lo.symm) (nd.lo▸lt)).trans nd.at_},?_⟩
  rcases h with ⟨r,a,b,c⟩ | ⟨ks,hk,hw⟩
  ·exact .inl ⟨r,a,b.cong hA,c,‹_›,‹_›,‹_›,‹_›,‹_›⟩
  ·refine .inr ⟨ks,{hk with fld:=fun k hm=>?_},WL.cong (fun lo hi k rs h=>walks_lt h) (fun lo' hi' k rs a b p=>ih (hA.sub (Int.le_trans (Int.le_of_lt (Int.lt_succ _)) a) b) p) hw⟩
   obtain ⟨dk,v,e1,e2⟩:=hk.fld k hm
   obtain ⟨b1,b2⟩:=WL.starts (fun lo hi k rs h=>walks_lt h) (fun lo hi k rs h=>walks_at h) hw k hm
   exact ⟨dk,v,(hA k (Int.le_trans (Int.le_of_lt (Int.lt_succ _)) b1) b2).trans e1,e2⟩
noncomputable def InR (lo hi:Int)(r:Rw):Prop:=∀k,r.has k→lo≤k∧k < hi
theorem InR.sub (h:InR lo hi r)(h1:lo'≤lo)(h2:hi≤hi'):InR lo' hi' r:=fun k hk=>⟨Int.le_trans h1 (h k hk).1,Int.lt_of_lt_of_le (h k hk).2 h2⟩
theorem RowOk.cong (h:AgrOn lo hi T T')(hi':InR lo hi r)(hr:RowOk T r):RowOk T' r:={hr with
 sts:=wsts_to (fun w hw=>h w (hi' w (.inr hw)).1 (hi' w (.inr hw)).2) hr.sts
 head:=by
  obtain ⟨d,hd⟩:=hr.head
  exact ⟨d,(h _ (hi' _ (.inl rfl)).1 (hi' _ (.inl rfl)).2).trans hd⟩}
theorem NoI.cong (h:AgrOn lo hi T T')(h1:lo≤k)(h2:k < hi)(hn:NoI T k):NoI T' k:=fun d hd=>hn d ((h k h1 h2).symm.trans hd)
end
section
variable {W W' g d:Dict}
theorem handL_cong (h:∀k∈sixK,dlook W' (sK k) =dlook W (sK k)):handL W'=handL W:=by
 unfold handL
 have:∀l:List String,(∀k∈l,dlook W' (sK k) =dlook W (sK k))→l.flatMap (handK W') =l.flatMap (handK W):=fun l=>by
  induction l with
  | nil=>exact fun _=>rfl
  | cons k l ih=>
   intro hl
   rw [List.flatMap_cons,List.flatMap_cons,ih fun x hx=>hl x (.tail _ hx)]
   exact congrArg (· ++ _) (congrArg (pairO _) (hl k (.head _)))
 exact this _ h
theorem dputs_look {k:Key}:∀ {g:Dict},NoDupK d→dlook (dputs g d) k= (dlook d k).or (dlook g k):=by
 induction d with
 | nil=>exact fun {g} _=>rfl
 | cons e d ih=>
  intro g h
  have h':=List.nodup_cons.mp h
  show dlook (dputs (dput g e.1 e.2) d) k=_
  rw [ih h'.2,look_put]
  by_cases q:e.1=k
  ·rw [if_pos q,look_t q,look_none.mpr fun x hx w=>h'.1 (by show e.1∈_;rw [q,← w];exact List.mem_map.mpr ⟨x,hx,rfl⟩)];rfl
  ·rw [if_neg q,look_f q]
theorem mem_dputs {e:Key × MV}:∀ {g:Dict},e∈dputs g d→e∈g∨e∈d:=by
 induction d with
 | nil=>exact fun {g} h=> .inl h
 | cons x d ih=>
  intro g h
  rcases ih h with h | h
  ·exact (mem_dput h).imp (fun h=>h) fun w=>by rw [w];exact .head _
  ·exact .inr (.tail _ h)
theorem HdI.puts (hg:HdI g)(hd:HdI d):HdI (dputs g d):=⟨.puts hd.ok.ks hd.ok.pl hg.ok,fun e he=>(mem_dputs he).elim (hg.six e) (hd.six e)⟩
theorem handL_mem {e:Key × MV}(h:e∈handL W):e∈W:=by
 obtain ⟨k,_,hk⟩:=List.mem_flatMap.mp h
 have hk:e∈pairO (.inr (Str.ofString k)) (dlook W (.inr (Str.ofString k))):=hk
 cases hd:dlook W (.inr (Str.ofString k)) with
 | none=>rw [hd] at hk;cases hk
 | some v=>
  rw [hd] at hk
  rw [List.mem_singleton.mp hk]
  exact look_mem hd
theorem hand_ok (h:HdI W):HdI (dputs [] (handL W)):=⟨.puts (fun e he=>h.ok.ks e (handL_mem he)) (fun e he=>h.ok.pl e (handL_mem he)) .nil,fun e he=>(mem_dputs he).elim (fun h=>nomatch h) fun he=>h.six e (handL_mem he)⟩
end
structure Reads (W:Dict)(w:String)(f:Int)(mx:Option Int)(op:Nat):Prop where
 ft:FtOk W w
 ff:FfOk W f
 mx:dlook W (sK "MaxLen") =mx.map MV.int
 op:OpOk W op
theorem six_read {W:Dict}(h:HdI W):∃w f mx op,(mx=none∨mx=some 3)∧∀W',(∀k∈sixK,dlook W' (sK k) =dlook W (sK k))→Reads W' w f mx op:=by
 obtain ⟨w,w1⟩:∃w,∀W',dlook W' (sK "FT") =dlook W (sK "FT")→FtOk W' w:=by
  cases e:dlook W (sK "FT") with
  | none=>exact ⟨"",fun W' h1=> .no h1 rfl⟩
  | some v=>
   obtain ⟨w,m,rfl⟩:=h.get e sx_at.1
   exact ⟨w,fun W' h1=> .at_ h1 m⟩
 obtain ⟨f,f1⟩:∃f,∀W',dlook W' (sK "Ff") =dlook W (sK "Ff")→FfOk W' f:=by
  cases e:dlook W (sK "Ff") with
  | none=>exact ⟨0,fun W' h1=>⟨Int.le_refl _, .inl ⟨h1,rfl⟩⟩⟩
  | some v=>
   obtain ⟨f,m,rfl⟩:=h.get e sx_at.2.1
   exact ⟨f,fun W' h1=>⟨m, .inr h1⟩⟩
 obtain ⟨mx,m3,m1⟩:∃mx:Option Int,(mx=none∨mx=some 3)∧dlook W (sK "MaxLen") =mx.map MV.int:=by
  cases e:dlook W (sK "MaxLen") with
  | none=>exact ⟨none, .inl rfl,rfl⟩
  | some v=>
   cases (h.get e sx_at.2.2.1:v= .int 3)
   exact ⟨some 3, .inr rfl,rfl⟩
 obtain ⟨op,o1⟩:∃op,∀W',dlook W' (sK "Opt") =dlook W (sK "Opt")→OpOk W' op:=by
  cases e:dlook W (sK "Opt") with
  | none=>exact ⟨0,fun W' h1=> .no rfl h1⟩
  | some v=>
   obtain ⟨op,a,b,rfl⟩:=h.get e sx_at.2.2.2.1
   exact ⟨op,fun W' h1=> .at_ a b h1⟩
 exact ⟨w,f,mx,op,m3,fun W' hW=>⟨w1 W' (hW _ (by decide)),f1 W' (hW _ (by decide)),(hW "MaxLen" (by decide)).trans m1,o1 W' (hW _ (by decide))⟩⟩
end Mine
end
section
namespace Mine
open PySem
noncomputable def sz:Nat→Nat
 | 0=>4
 | e+1=>1+2 * sz e
theorem sz_ge (e:Nat):4≤sz e:=by
 induction e with
 | zero=>exact Nat.le_refl _
 | succ e ih=>show 4≤1+2 * sz e;omega
structure RowsQ (T T':Tab)(rs:List Rw):Prop where
 ok:∀r∈rs,RowOk T' r∧InR ((T.length:Int) +1) ((T'.length:Int) +1) r∧NoI T' r.num
 nd:(rs.map (·.num)).Nodup
structure NdQ (e:Nat)(T T':Tab)(above name:MV)(given:Dict)(rs:List Rw):Prop where
 lo:T.length+1≤T'.length
 hi:T'.length≤T.length+sz e
 agr:Agr T T'
 w:Walks T' (e+1) ((T.length:Int) +1) ((T'.length:Int) +1) ((T.length:Int) +1) above name given rs
 rows:RowsQ T T' rs
 ne:rs≠ []
 rl:rs.length≤sz e
noncomputable def NmOk (deep:Nat)(name:MV):Prop:=name= .none∨∃u:Str,name= .str u∧u.length≤10 * deep
theorem part_len:∀q∈parts,(Str.ofString q.1).length=1:=by decide +kernel
theorem tok_cases {d:Dict}{v:MV}(h:TnOk d v):v= .none∨∃s:Str,v= .str s∧s.length=1:=by
 cases h with
 | no _ e=>exact .inl e
 | part p hp _ e=>exact .inr ⟨_,e,part_len p hp⟩
section
variable {deep:Nat}{name v:MV}{d:Dict}
theorem long_ok (hn:NmOk deep name)(hd:deep≤2)(hv:TnOk d v):LongOk name v:=by
 rcases tok_cases hv with rfl | ⟨s,rfl,hs⟩
 ·exact .no (hn.imp (fun h=>h) fun ⟨u,h,_⟩=>⟨u,h⟩) rfl
 ·rcases hn with rfl | ⟨u,rfl,hu⟩
  ·exact .first s rfl rfl
  ·exact .both u s rfl rfl (by omega)
theorem nm_next (hn:NmOk deep name)(hv:TnOk d v):NmOk (deep+1) (longer name v):=by
 rcases tok_cases hv with rfl | ⟨s,rfl,hs⟩
 ·rcases hn with rfl | ⟨u,rfl,hu⟩
  ·exact .inl rfl
  ·exact .inr ⟨u,rfl,by omega⟩
 ·rcases hn with rfl | ⟨u,rfl,hu⟩
  ·exact .inr ⟨s,rfl,by omega⟩
  ·refine .inr ⟨_,rfl,?_⟩
   have e:(dotted u s).length=u.length+1+s.length:=Array.size_append.trans (congrArg (· +s.length) Array.size_append)
   omega
theorem nm_len (hn:NmOk deep name)(hd:deep≤3):(nameS name).length≤100:=by
 rcases hn with rfl | ⟨u,rfl,hu⟩
 ·exact Nat.zero_le _
 ·exact Nat.le_trans hu (by omega)
end
theorem sx0:sxOf (sK "AP") =0∧sxOf (sK "AS") =0∧sxOf (sK "Subtype") =0∧sxOf (sK "Kids") =0∧sxOf (sK "T") =0∧sxOf (sK "Parent") =0:=by decide +kernel
theorem HdI.putO {d:Dict}{k:String}{v:MV}(h:HdI d)(hk:k∈allK)(hv:PlainV 3 v)(h0:sxOf (sK k) =0):HdI (dput d (sK k) v):=h.put (inK hk) hv (h0▸trivial)
noncomputable def eight:List String:=["FT","Ff","V","DV","MaxLen","Opt","T","I"]
theorem eight_ne:∀k∈eight,sK "AP"≠sK k∧sK "AS"≠sK k∧sK "Subtype"≠sK k∧sK "Kids"≠sK k:=by decide +kernel
theorem six_eight:∀k∈sixK,k∈eight:=by decide
noncomputable def Eight (d d':Dict):Prop:=∀k∈eight,dlook d' (sK k) =dlook d (sK k)
section
variable {T T':Tab}{d2 d3 dh given:Dict}{v name above:MV}{wids:List Int}{sts:List (List String)}{deep e:Nat}
theorem TnOk.to (h:TnOk d2 v)(h8:Eight d2 d3):TnOk d3 v:=by
 have e:=h8 "T" (by decide)
 cases h with
 | no h1 h2=>exact .no (e.trans h1) h2
 | part p hp h1 h2=>exact .part p hp (e.trans h1) h2
theorem six_whole (h1:NoDupK d2)(h3:NoDupK d3)(h8:Eight d2 d3):∀k∈sixK,dlook (dputs given d3) (sK k) =dlook (dputs given d2) (sK k):=fun k hk=>by
 rw [dputs_look h1,dputs_look h3,h8 k (six_eight k hk)]
theorem put_len {k:Int}(h:tget T k=some dh):(tput T k d3).length=T.length:=by rw [← List.length_map (f:=(·.1)),tput_keys h,List.length_map]
theorem leaf_fin (hget:tget T' ((T.length:Int) +1) =some dh)(l1:T.length+1≤T'.length)(l2:T'.length≤T.length+4)(hagr:Agr T T')(h1:HdI d2)(h3:HdI d3)(hT:TnOk d2 v)(hI:dlook d2 (sK "I") =none)(h8:Eight d2 d3)(hnm:NmOk deep name)(hdp:deep≤2)(hg:HdI given)
  (hLW:LeafW (tput T' ((T.length:Int) +1) d3) ((T.length:Int) +1) ((T'.length:Int) +1) ((T.length:Int) +1) d3 wids) (hS:WSts (tput T' ((T.length:Int) +1) d3) wids sts) (hwl:wids.length≤10) (hin:∀w∈wids,(T.length:Int) +1≤w∧w < (T'.length:Int) +1) :
  ∃r:Rw,r.row= .tup [.str (nameS (longer name v)),rf ((T.length:Int) +1),above, .dct (dputs given d2), .lst (wids.map rf)]∧NdQ e T (tput T' ((T.length:Int) +1) d3) above name given [r]:=by
 have hsz:=sz_ge e
 have hl2:=put_len (d3:=d3) hget
 have hg3:tget (tput T' ((T.length:Int) +1) d3) ((T.length:Int) +1) =some d3:=by rw [tget_tput,if_pos rfl]
 obtain ⟨w,f,mx,op,m3,rd⟩:=six_read (hg.puts h1)
 have r2:=rd _ fun k hk=>rfl
 have r3:=rd _ (six_whole h1.ok.nd h3.ok.nd h8)
 have hT3:=hT.to h8
 refine ⟨⟨nameS (longer name v),(T.length:Int) +1,above,dputs given d2,dputs given d3,w,f,mx,op,wids,sts⟩,rfl,⟨hl2▸l1,hl2▸Nat.le_trans l2 (Nat.add_le_add_left hsz _),fun k hk=>?_,?_,⟨fun r hr=>?_,List.nodup_cons.mpr ⟨List.not_mem_nil,List.nodup_nil⟩⟩,nofun,Nat.le_trans (show 1≤4 by decide) hsz⟩⟩
 ·rw [tget_tput,if_neg (show ¬ (T.length:Int) +1=k by omega)]
  exact hagr k hk
 ·refine ⟨d3,v,⟨rfl,hg3,h3.ok.nd,Nat.le_trans (Nat.add_le_add h3.ok.len hg.ok.len) (by decide),hT3,long_ok hnm hdp hT3⟩, .inl ⟨_,rfl,by rw [hl2];exact hLW,rfl,rfl,rfl,rfl,r3.ft,r3.ff⟩⟩
 ·rw [List.mem_singleton.mp hr]
  refine ⟨⟨r2.ft,r3.ft,r2.ff,r3.ff,r2.mx,r3.mx,m3,r2.op,r3.op,nm_len (nm_next hnm hT3) (Nat.succ_le_succ hdp),hwl,hS,d3,hg3⟩,fun k hk=>?_,fun d hd=>?_⟩
  ·rw [hl2]
   rcases hk with rfl | hk
   ·exact ⟨Int.le_refl _,by show (T.length:Int) +1 < _;omega⟩
   ·exact hin k hk
  ·cases hg3.symm.trans hd
   exact (h8 "I" (by decide)).trans hI
noncomputable def NoX (d:Dict):Prop:=∀k∈ ["AP","AS","Subtype","Kids","I"],dlook d (sK k) =none
theorem look_ok {st:List String}{s:MV}(h1:HdI d2)(hst:st∈subs)(hs:isStr s=true):HdI (lookD d2 st s)∧Eight d2 (lookD d2 st s)∧ApOk (lookD d2 st s) st:=by
 obtain ⟨s,rfl⟩:=str_of hs
 exact ⟨(h1.putO (by decide) (apV_plain hst) sx0.1).putO (by decide) (.name s) sx0.2.1,fun k hk=>(put_other (eight_ne k hk).2.1).trans (put_other (eight_ne k hk).1),⟨(put_other (by decide)).trans put_same,hst⟩⟩
theorem leaf_q (hnum:NumT T)(hw:WgQ (T ++ [((T.length:Int) +1,[])]) ((T.length:Int) +1) d2 T' d3 wids sts)(h1:HdI d2)(h2:NoX d2)(h3:TnOk d2 v)(hnm:NmOk deep name)(hdp:deep≤2)(hg:HdI given) :
  HdI d3∧TnOk d3 v∧(∃dh,tget T' ((T.length:Int) +1) =some dh)∧∃r:Rw,r.row= .tup [.str (nameS (longer name v)),rf ((T.length:Int) +1),above, .dct (dputs given d2), .lst (wids.map rf)]∧NdQ e T (tput T' ((T.length:Int) +1) d3) above name given [r]:=by
 have len1:(T ++ [((T.length:Int) +1,([]:Dict))]).length=T.length+1:=List.length_append
 have len2:((T ++ [((T.length:Int) +1,([]:Dict))]).length:Int) +1= (T.length:Int) +1+1:=by rw [len1];rfl
 have kI:=h2 "I" (by decide)
 have kK:=h2 "Kids" (by decide)
 have hget:=tget_new (d:=[]) hnum
 have g3:∀ {T':Tab}{d3:Dict},tget (tput T' ((T.length:Int) +1) d3) ((T.length:Int) +1) =some d3:=fun {T' d3}=>by rw [tget_tput,if_pos rfl]
 cases hw with
 | own st s hst hs=>
  obtain ⟨a1,a2,a3⟩:=look_ok h1 hst hs
  have b1:HdI (dput (lookD d2 st s) (sK "Subtype") (nmv "Widget")):=a1.putO (by decide) (.name _) sx0.2.2.1
  have b2:Eight d2 (dput (lookD d2 st s) (sK "Subtype") (nmv "Widget")):=fun k hk=>(put_other (eight_ne k hk).2.2.1).trans (a2 k hk)
  refine ⟨b1,h3.to b2,⟨_,hget⟩,leaf_fin (deep:=deep) (sts:=[st]) hget (Nat.le_of_eq len1.symm) (by rw [len1];omega) agr_app h1 b1 h3 kI b2 hnm hdp hg (.lone ((put_other (by decide)).trans ((put_other (by decide)).trans ((put_other (by decide)).trans kK))) len2 put_same rfl) ⟨⟨_,g3,⟨(put_other (by decide)).trans a3.ap,hst⟩⟩,trivial⟩ (show 1≤10 by decide) fun w hw=>?_⟩
  rw [List.mem_singleton.mp hw,len2]
  exact ⟨Int.le_refl _,Int.lt_succ _⟩
 | no st s hst hs=>
  obtain ⟨a1,a2,a3⟩:=look_ok h1 hst hs
  exact ⟨a1,h3.to a2,⟨_,hget⟩,leaf_fin (deep:=deep) (sts:=[]) hget (Nat.le_of_eq len1.symm) (by rw [len1];omega) agr_app h1 a1 h3 kI a2 hnm hdp hg (.no ((put_other (by decide)).trans ((put_other (by decide)).trans kK)) len2 ((put_other (by decide)).trans ((put_other (by decide)).trans (h2 "Subtype" (by decide)))) rfl) trivial (Nat.zero_le _) nofun⟩
 | kids T' wids sts k1 k2 hP=>
  have hlen:=hP.len
  rw [len1] at hlen
  have hasc:=hP.asc
  rw [len2] at hasc
  have ne:∀w∈wids,¬ (T.length:Int) +1=w:=fun w hw=>by have:=(asc_mem hasc w hw).1;omega
  have a1:HdI (dput d2 (sK "Kids") (.lst (wids.map rf))):=h1.putO (by decide) (.lst (by rw [List.length_map];exact Nat.lt_of_le_of_lt k2 (by decide)) fun x hx=>by
   obtain ⟨y,_,rfl⟩:=List.mem_map.mp hx
   exact .ref y) sx0.2.2.2.1
  have a2:Eight d2 (dput d2 (sK "Kids") (.lst (wids.map rf))):=fun k hk=>put_other (eight_ne k hk).2.2.2
  have hget':tget T' ((T.length:Int) +1) =some []:=(hP.agr _ (by rw [len1];exact Int.le_refl _)).trans hget
  refine ⟨a1,h3.to a2,⟨_,hget'⟩,leaf_fin (deep:=deep) (sts:=sts) hget' (by omega) (by omega) (agr_app.to hP.agr (by rw [len1];exact Nat.le_succ _)) h1 a1 h3 kI a2 hnm hdp hg (.kids (List.length_pos_iff.mp k1) put_same hasc (Nat.le_trans k2 (by decide)) fun w hw=>?_) (wsts_to (fun w hw=>by rw [tget_tput,if_neg (ne w hw)]) hP.sts) (Nat.le_trans k2 (by decide)) fun w hw=>?_⟩
  ·obtain ⟨dw,e1,e2⟩:=hP.noT w hw
   exact ⟨dw,by rw [tget_tput,if_neg (ne w hw)];exact e1,e2⟩
  ·exact ⟨Int.le_trans (Int.le_of_lt (Int.lt_succ _)) (asc_mem hasc w hw).1,(asc_mem hasc w hw).2⟩
end
end Mine
end
section
namespace Mine
open PySem
structure KdQ (D s k:Nat)(T T':Tab)(above name:MV)(given:Dict)(ks:List Int)(rs:List Rw):Prop where
 lo:T.length+k≤T'.length
 hi:T'.length≤T.length+k * s
 agr:Agr T T'
 w:WL (fun lo hi k rs=>Walks T' D lo hi k above name given rs) ((T.length:Int) +1) ((T'.length:Int) +1) ks rs
 kl:ks.length=k
 rows:RowsQ T T' rs
 rl:rs.length≤k * s
 ne:0 < k→rs≠ []
noncomputable def Nmd (T:Tab)(ks:List Int):Prop:=∀k∈ks,∃d v,tget T k=some d∧TnOk d v∧isN v=false
section
variable {D s k:Nat}{T T1 T':Tab}{above name:MV}{given:Dict}{ks:List Int}{rs rs1 rs2:List Rw}
theorem KdQ.nil:KdQ D s 0 T T above name given [] []:=⟨Nat.le_refl _,by rw [Nat.zero_mul];exact Nat.le_refl _, .rfl',⟨rfl,rfl⟩,rfl,⟨fun r hr=>absurd hr List.not_mem_nil,List.nodup_nil⟩,Nat.zero_le _,fun h=>absurd h (Nat.lt_irrefl 0)⟩
theorem RowsQ.app (a:RowsQ T T1 rs1)(b:RowsQ T1 T' rs2)(l1:T.length≤T1.length)(l2:T1.length≤T'.length)(h:Agr T1 T'):RowsQ T T' (rs1 ++ rs2):=by
 have b1:(T.length:Int) +1≤(T1.length:Int) +1:=Int.add_le_add_right (Int.ofNat_le.mpr l1) 1
 have b2:(T1.length:Int) +1≤(T'.length:Int) +1:=Int.add_le_add_right (Int.ofNat_le.mpr l2) 1
 refine ⟨fun r hr=>?_,?_⟩
 ·rcases List.mem_append.mp hr with hr | hr
  ·obtain ⟨x,y,z⟩:=a.ok r hr
   exact ⟨x.cong h.on y,y.sub (Int.le_refl _) b2,z.cong h.on (y _ (.inl rfl)).1 (y _ (.inl rfl)).2⟩
  ·obtain ⟨x,y,z⟩:=b.ok r hr
   exact ⟨x,y.sub b1 (Int.le_refl _),z⟩
 ·rw [List.map_append]
  refine List.nodup_append.mpr ⟨a.nd,b.nd,fun i hi j hj w=>?_⟩
  obtain ⟨r,hr,rfl⟩:=List.mem_map.mp hi
  obtain ⟨q,hq,rfl⟩:=List.mem_map.mp hj
  exact Int.lt_irrefl _ (Int.lt_of_lt_of_le ((a.ok r hr).2.1 _ (.inl rfl)).2 (w▸((b.ok q hq).2.1 _ (.inl rfl)).1))
theorem KdQ.cons {e:Nat}(h1:NdQ e T T1 above name given rs1)(h2:KdQ (e+1) (sz e) k T1 T' above name given ks rs2):KdQ (e+1) (sz e) (k+1) T T' above name given (((T.length:Int) +1) ::ks) (rs1 ++ rs2):=by
 have hm:(k+1) * sz e=k * sz e+sz e:=Nat.succ_mul ..
 have a1:=h1.lo
 have a2:=h1.hi
 have a3:=h2.lo
 have a4:=h2.hi
 exact ⟨Nat.le_trans (by rw [Nat.add_comm k 1,← Nat.add_assoc];exact Nat.add_le_add_right a1 k) a3,Nat.le_trans a4 (by rw [hm,Nat.add_comm (k * sz e),← Nat.add_assoc];exact Nat.add_le_add_right a2 _),h1.agr.to h2.agr (by omega),⟨(T1.length:Int) +1,rs1,rs2,h1.w.cong h2.agr.on,h2.w,rfl⟩,congrArg (· +1) h2.kl,h1.rows.app h2.rows (by omega) (by omega) h2.agr,by rw [List.length_append,hm,Nat.add_comm];exact Nat.add_le_add h2.rl h1.rl,fun _ w=>h1.ne (List.append_eq_nil_iff.mp w).1⟩
theorem nmd_cons {e:Nat}(h1:NdQ e T T1 above name given rs1)(h:Agr T1 T')(hn:∃d v,tget T1 ((T.length:Int) +1) =some d∧TnOk d v∧isN v=false)(h2:Nmd T' ks):Nmd T' (((T.length:Int) +1) ::ks):=fun x hx=>by
 rcases List.mem_cons.mp hx with rfl | hx
 ·obtain ⟨d,v,a,b⟩:=hn
  exact ⟨d,v,(h _ (Int.ofNat_le.mpr h1.lo)).trans a,b⟩
 ·exact h2 x hx
theorem group_q {e deep:Nat}{d2:Dict}{v:MV}(hnum:NumT T)(hk1:1≤k)(hk2:k≤2)(hQ:KdQ (e+1) (sz e) k (T ++ [((T.length:Int) +1,[])]) T' (rf ((T.length:Int) +1)) (longer name v) (dputs [] (handL (dputs given d2))) ks rs)(hN:Nmd T' ks)
  (h1:HdI d2) (h3:TnOk d2 v) (hnm:NmOk deep name) (hdp:deep≤2) (hg:HdI given) :
  HdI (dput d2 (sK "Kids") (.lst (ks.map rf)))∧TnOk (dput d2 (sK "Kids") (.lst (ks.map rf))) v∧(∃dh,tget T' ((T.length:Int) +1) =some dh)∧NdQ (e+1) T (tput T' ((T.length:Int) +1) (dput d2 (sK "Kids") (.lst (ks.map rf)))) above name given rs:=by
 have len1:(T ++ [((T.length:Int) +1,([]:Dict))]).length=T.length+1:=List.length_append
 have len2:((T ++ [((T.length:Int) +1,([]:Dict))]).length:Int) +1= (T.length:Int) +1+1:=by rw [len1];rfl
 have hlo:=hQ.lo
 have hhi:=hQ.hi
 have hm:k * sz e≤2 * sz e:=Nat.mul_le_mul_right _ hk2
 rw [len1] at hlo hhi
 have a1:HdI (dput d2 (sK "Kids") (.lst (ks.map rf))):=h1.putO (by decide) (.lst (by rw [List.length_map,hQ.kl];exact Nat.lt_of_le_of_lt hk2 (by decide)) fun x hx=>by
  obtain ⟨y,_,rfl⟩:=List.mem_map.mp hx
  exact .ref y) sx0.2.2.2.1
 have a2:Eight d2 (dput d2 (sK "Kids") (.lst (ks.map rf))):=fun k hk=>put_other (eight_ne k hk).2.2.2
 have a3:=h3.to a2
 have hget:tget T' ((T.length:Int) +1) =some []:=(hQ.agr _ (by rw [len1];exact Int.le_refl _)).trans (tget_new hnum)
 have hand:=handL_cong (six_whole (given:=given) h1.ok.nd a1.ok.nd a2)
 have hK:dlook (dput d2 (sK "Kids") (.lst (ks.map rf))) (sK "Kids") =some (.lst (ks.map rf)):=put_same
 generalize dput d2 (sK "Kids") (.lst (ks.map rf)) =d3 at *
 have hl2:=put_len (d3:=d3) hget
 have g3:tget (tput T' ((T.length:Int) +1) d3) ((T.length:Int) +1) =some d3:=by rw [tget_tput,if_pos rfl]
 have on:AgrOn ((T.length:Int) +1+1) ((T'.length:Int) +1) T' (tput T' ((T.length:Int) +1) d3):=fun x hx _=>by rw [tget_tput,if_neg (show ¬ (T.length:Int) +1=x by omega)]
 have hw:=hQ.w
 rw [len2] at hw
 have hst:=WL.starts (fun lo hi k rs h=>walks_lt h) (fun lo hi k rs h=>walks_at h) hw
 refine ⟨a1,a3,⟨_,hget⟩,hl2▸by omega,hl2▸(show _≤T.length+ (1+2 * sz e) by omega),fun x hx=>?_,?_,⟨fun r hr=>?_,hQ.rows.nd⟩,hQ.ne hk1,Nat.le_trans hQ.rl (Nat.le_trans hm (Nat.le_add_left _ 1))⟩
 ·rw [tget_tput,if_neg (show ¬ (T.length:Int) +1=x by omega)]
  exact (agr_app.to hQ.agr (by rw [len1];exact Nat.le_succ _)) x hx
 ·refine ⟨d3,v,⟨rfl,g3,a1.ok.nd,Nat.le_trans (Nat.add_le_add a1.ok.len hg.ok.len) (by decide),a3,long_ok hnm hdp a3⟩, .inr ⟨ks,⟨fun w=>by rw [← hQ.kl,w] at hk1;exact absurd hk1 (by decide),by rw [hQ.kl];exact Nat.le_trans hk2 (by decide),hK,fun x hx=>?_⟩,?_⟩⟩
  ·obtain ⟨d,u,b1,b2⟩:=hN x hx
   obtain ⟨c1,c2⟩:=hst x hx
   exact ⟨d,u,(on x c1 c2).trans b1,b2⟩
  ·rw [hand,hl2]
   exact WL.cong (fun lo hi k rs h=>walks_lt h) (fun lo' hi' k rs a b p=>p.cong (on.sub a b)) hw
 ·obtain ⟨b1,b2,b3⟩:=hQ.rows.ok r hr
  rw [len2] at b2
  exact ⟨b1.cong on b2,by rw [hl2];exact b2.sub (Int.le_of_lt (Int.lt_succ _)) (Int.le_refl _),b3.cong on (b2 _ (.inl rfl)).1 (b2 _ (.inl rfl)).2⟩
end
end Mine
end
section
namespace Mine
open PySem
noncomputable def ndE:Cs:=(sq (exS (mtd 375 339 (lv 1) [(fd 266 0 (lv 8)),(cst (.int 0)),(frD (lv 9))])) (sq (retS (lv 8)) skp))
noncomputable def ndL:Cs:=(sq (exS (mth false .list .append (lv 6) [(tupC [(tIf (tCmp .isnt (lv 11) (cst .none)) (lv 11) (cst (.str ""))),(lv 8),(lv 2),(frD (lv 12)),(kall 727 [(lv 0),(lv 1),(lv 8),(lv 9)])])])) skp)
noncomputable def ndG:Cs:=(sq (asS (.one 14) (blt false .dict [(lcp false (icomp [none,none,some 12] (.one 1) (iover (tupC [(cst (.str "FT")),(cst (.str "Ff")),(cst (.str "V")),(cst (.str "DV")),(cst (.str "MaxLen")),(cst (.str "Opt"))])) (tAnd (tCmp .in (lv 1) (lv 2)) yes) (ione (tupC [(lv 1),(itm (lv 2) (lv 1))]))))])) (sq (exS (mth false .list .append (lv 7) [(tupC [(lv 8),(lv 2)])])) (sq (ixS (lv 9) (cst (.str "Kids")) (lcp false (icomp [none,none,none,some 5,some 11,some 7,some 14,some 8,some 0,some 6,some 1] (.one 1) (iran (bin .add (cst (.int 1)) (kall 698 [(lv 0),(cst (.int 2))]))) yes (ione (kall 732 [(lv 8),(lv 10),(lv 7),(lv 4),(lv 6),(bin .add (lv 3) (cst (.int 1))),(lv 9),(lv 5)]))))) skp)))
noncomputable def ndC:Cs:=(sq (ifS (tAnd (tCmp .lt (lv 5) (cst (.int 2))) (tAnd (tCmp .eq (kall 698 [(lv 0),(cst (.int 3))]) (cst (.int 1))) yes)) ndG ndL) ndE)
noncomputable def ndB:Cs:=(sq (exS (kall 715 [(lv 0),(lv 9),(lv 4)])) (sq (asS (.one 12) (blt true .dict [(lv 4)])) (sq (forK (.one 13) 9 (sq (ixS (lv 12) (lv 13) (itm (lv 9) (lv 13))) skp)) ndC)))
noncomputable def ndA:Cs:=(sq (asS (.one 11) (tIf (tCmp .notin (cst (.str "T")) (lv 9)) (lv 3) (tIf (tCmp .is (lv 3) (cst .none)) (lv 10) (bin .add (bin .add (lv 3) (cst (.str "."))) (lv 10))))) (sq (ifS (tCmp .isnt (lv 2) (cst .none)) (sq (ixS (lv 9) (cst (.str "Parent")) (lv 2)) skp) skp) ndB))
noncomputable def ndT:Cs:=(sq (ifS (tOr (tCmp .gt (lv 5) (cst (.int 0))) (tOr (tCmp .lt (kall 698 [(lv 0),(cst (.int 5))]) (cst (.int 4))) tfl)) (sq (ixS (lv 9) (cst (.str "T")) (kall 217 [(blt false .bytes [(lstC false [(blt false .ord [(lv 10)])])])])) skp) skp) ndA)
noncomputable def ndP:Cs:=(sq (asS (.one 10) (itm (tupC [(cst (.str "a")),(cst (.str "b")),(cst (.str "c"))]) (kall 698 [(lv 0),(cst (.int 3))]))) ndT)
structure NC where
 t:Nat
 tr:Nat
 p:Nat
 cr:Nat
 cg:Nat
 above:MV
 name:MV
 given:Dict
 deep:Nat
noncomputable def NC.loc (C:NC)(a:Nat)(home:Int)(x y z u v:Option MV):Loc:=[some (.ref C.p),some (shv C.t C.tr),some C.above,some C.name,some (.dct C.given),some (.int C.deep),some (.ref C.cr),some (.ref C.cg),some (rf home),some (.ref a),x,y,z,u,v,none,none,none,none,none,none,none,none]
structure NC.Dis (C:NC):Prop where
 t1:C.t≠C.tr
 t2:C.t≠C.p
 t3:C.t≠C.cr
 t4:C.t≠C.cg
 r2:C.tr≠C.p
 r3:C.tr≠C.cr
 r4:C.tr≠C.cg
 p3:C.p≠C.cr
 p4:C.p≠C.cg
 c4:C.cr≠C.cg
structure NC.Off (C:NC)(H0:Hp)(a:Nat):Prop where
 t:C.t≠a
 tr:C.tr≠a
 p:C.p≠a
 r:C.cr≠a
 g:C.cg≠a
 le:H0.length≤a
noncomputable def NC.S (C:NC):List Nat:=[C.t,C.p,C.cr,C.cg]
structure NdI (C:NC)(a:Nat)(T:Tab)(R G:List MV)(d:Dict)(H0 H:Hp):Prop where
 g:Gt C.t C.tr T H
 po:PoolAt C.p H
 r:H[C.cr]?=some (cL R)
 gr:H[C.cg]?=some (cL G)
 hd:H[a]?=some (cD d)
 ch:Chg C.S H0 H
section
variable {C:NC}{a c:Nat}{T T':Tab}{R G L:List MV}{d d':Dict}{H0 H H':Hp}{x:Cell}
theorem NdI.ex (i:NdI C a T R G d H0 H)(e:Ext H H'):NdI C a T R G d H0 H':=⟨i.g.ex e,i.po.ex e,e.get i.r,e.get i.gr,e.get i.hd,i.ch.ex e⟩
theorem NdI.own (i:NdI C a T R G d H0 H)(o:C.Off H0 c)(h:c≠a):NdI C a T R G d H0 (H.set c x):=⟨⟨at_ne i.g.t o.t.symm,at_ne i.g.tr o.tr.symm,i.g.num,i.g.ok⟩,i.po.imp fun _ h=>⟨at_ne h.1 o.p.symm,h.2⟩,at_ne i.r o.r.symm,at_ne i.gr o.g.symm,at_ne i.hd h,i.ch.st (.inr o.le)⟩
theorem NdI.put (i:NdI C a T R G d H0 H)(o:C.Off H0 a):NdI C a T R G d' H0 (H.set a (cD d')):=⟨⟨at_ne i.g.t o.t.symm,at_ne i.g.tr o.tr.symm,i.g.num,i.g.ok⟩,i.po.imp fun _ h=>⟨at_ne h.1 o.p.symm,h.2⟩,at_ne i.r o.r.symm,at_ne i.gr o.g.symm,at_set i.hd,i.ch.st (.inr o.le)⟩
theorem NdI.setR (i:NdI C a T R G d H0 H)(D:C.Dis)(o:C.Off H0 a):NdI C a T L G d H0 (H.set C.cr (cL L)):=⟨⟨at_ne i.g.t D.t3.symm,at_ne i.g.tr D.r3.symm,i.g.num,i.g.ok⟩,i.po.imp fun _ h=>⟨at_ne h.1 D.p3.symm,h.2⟩,at_set i.r,at_ne i.gr D.c4,at_ne i.hd o.r,i.ch.st (.inl (.tail _ (.tail _ (.head _))))⟩
theorem NdI.setG (i:NdI C a T R G d H0 H)(D:C.Dis)(o:C.Off H0 a):NdI C a T R L d H0 (H.set C.cg (cL L)):=⟨⟨at_ne i.g.t D.t4.symm,at_ne i.g.tr D.r4.symm,i.g.num,i.g.ok⟩,i.po.imp fun _ h=>⟨at_ne h.1 D.p4.symm,h.2⟩,at_ne i.r D.c4.symm,at_set i.gr,at_ne i.hd o.g,i.ch.st (.inl (.tail _ (.tail _ (.tail _ (.head _)))))⟩
theorem not1 {i p:Nat}(h:i≠p):i∉ [p]:=fun w=>h (List.mem_singleton.mp w)
noncomputable def ndInv (C:NC)(a:Nat)(T:Tab)(R G:List MV)(d:Dict)(H0:Hp)(D:C.Dis)(o:C.Off H0 a):Inv C.p:=⟨NdI C a T R G d H0,fun i=>i.po,fun i ch po=>⟨i.g.chg ch (not1 D.t2) (not1 D.r2),po,ch.get i.r (not1 D.p3.symm),ch.get i.gr (not1 D.p4.symm),ch.get i.hd (not1 o.p.symm),i.ch.sub ch fun j hj=> .inl (by rw [List.mem_singleton.mp hj];exact .tail _ (.head _))⟩⟩
end
inductive NodePost (e:Nat)(C:NC)(T:Tab)(R G:List MV)(H0:Hp)(u:MV)(H:Hp):Prop
 | mk (T':Tab)(rs:List Rw)(G':List MV):u=rf ((T.length:Int) +1)→NdQ e T T' C.above C.name C.given rs→(0 < C.deep→∃d v,tget T' ((T.length:Int) +1) =some d∧TnOk d v∧isN v=false)→Gt C.t C.tr T' H→PoolAt C.p H→H[C.cr]?=some (cL (R ++ rs.map Rw.row))→H[C.cg]?=some (cL (G ++ G'))→G'.length≤sz e→Chg C.S H0 H→NodePost e C T R G H0 u H
structure Mid (e:Nat)(C:NC)(a:Nat)(T:Tab)(R G:List MV)(v:MV)(H0:Hp)(T':Tab)(d3:Dict)(rs:List Rw)(G':List MV)(H:Hp):Prop where
 i:NdI C a T' (R ++ rs.map Rw.row) (G ++ G') d3 H0 H
 ok:HdI d3
 tn:TnOk d3 v
 at_:∃dh,tget T' ((T.length:Int) +1) =some dh
 q:NdQ e T (tput T' ((T.length:Int) +1) d3) C.above C.name C.given rs
 gl:G'.length≤sz e
section
variable {C:NC}{a c e n:Nat}{T T':Tab}{R G G':List MV}{d d3:Dict}{H0 H:Hp}{rs:List Rw}{v:MV}{E:Hp→Prop}{Q:Po MV}{M:Loc→Hp→Prop}{x y z u w:Option MV}
theorem nd_end (D:C.Dis)(o:C.Off H0 a)(m:Mid e C a T R G v H0 T' d3 rs G' H)(hv:0 < C.deep→isN v=false)(hT:T.length+sz e≤300)(q:∀u H',NodePost e C T R G H0 u H'→Q u H'):ndE (KF (n+1) false E Q) M (C.loc a ((T.length:Int) +1) x y z u w) H:=by
 obtain ⟨dh,h3⟩:=m.at_
 have hl:=put_len (d3:=d3) h3
 have hh:=m.q.hi
 rw [hl] at hh
 have i:=m.i.own (x:=⟨.frz, .dict d3⟩) o
 have g:=m.i.g
 have g1:Gt C.t C.tr T' (H.set a ⟨.frz, .dict d3⟩):=⟨at_ne g.t o.t.symm,at_ne g.tr o.tr.symm,g.num,g.ok⟩
 have hk:=tput_keys (d:=d3) h3
 refine ⟨_,_,m.i.hd,trivial,in339 ⟨_,g1.t,Nat.lt_of_le_of_lt (Nat.le_of_eq (List.length_map _)) (Nat.lt_of_le_of_lt (Nat.le_trans hh hT) (Nat.lt_of_lt_of_le (by decide:300 < 100000) (Nat.le_refl _))),q _ _ (.mk (tput T' ((T.length:Int) +1) d3) rs G' rfl m.q (fun hd=>⟨d3,v,by rw [tget_tput,if_pos rfl],m.tn,hv hd⟩) ⟨?_,at_ne g1.tr D.t1,?_,fun q hq=>?_⟩ ?_ (at_ne (at_ne m.i.r o.r.symm) D.t3) (at_ne (at_ne m.i.gr o.g.symm) D.t4) m.gl ((m.i.ch.st (.inr o.le)).st (.inl (.head _))))⟩⟩
 ·rw [dput_tabE (noDup_num g.num)];exact at_set g1.t
 ·unfold NumT
  rw [hk,hl];exact g.num
 ·rcases mem_tput hq with hq | hq
  ·exact g.ok q hq
  ·rw [hq];exact m.ok.ok
 ·exact m.i.po.imp fun _ h=>⟨at_ne (at_ne h.1 o.p.symm) D.t2,h.2⟩
end
end Mine
end
section
namespace Mine
open PySem
theorem not3 {i p q r:Nat}(h1:i≠p)(h2:i≠q)(h3:i≠r):i∉ [p,q,r]:=fun w=>by
 rcases List.mem_cons.mp w with w | w
 ·exact h1 w
 ·rcases List.mem_cons.mp w with w | w
  ·exact h2 w
  ·exact h3 (List.mem_singleton.mp w)
section
variable {C:NC}{a c e n:Nat}{T T':Tab}{R G G':List MV}{d d2:Dict}{H0 H:Hp}{rs:List Rw}{v:MV}{E:Hp→Prop}{Q:Po MV}{M:Loc→Hp→Prop}{x y z u w:Option MV}
theorem nd_lf (D:C.Dis)(o:C.Off H0 a)(oc:C.Off H0 c)(hca:c≠a)(i:NdI C a (T ++ [((T.length:Int) +1,[])]) R G d2 H0 H)(hW:H[c]?=some (cD (dputs C.given d2)))(hnum:NumT T)(hT:T.length≤300)(hR:R.length≤300)(h1:HdI d2)(h2:NoX d2)(h3:TnOk d2 v)(hnm:NmOk C.deep C.name)(hdp:C.deep≤2)(hg:HdI C.given)
  (q:∀T' d3 rs G' w H',Mid e C a T R G v H0 T' d3 rs G' H'→M (C.loc a ((T.length:Int) +1) x (some (longer C.name v)) (some (.ref c)) u w) H'):ndL (KF (n+4) false E Q) M (C.loc a ((T.length:Int) +1) x (some (longer C.name v)) (some (.ref c)) u w) H:=by
 have len1:(T ++ [((T.length:Int) +1,([]:Dict))]).length=T.length+1:=List.length_append
 have full:Rd vAll (tIf (tCmp .isnt (lv 11) (cst .none)) (lv 11) (cst (.str "")) (KF (n+4) false E Q) (C.loc a ((T.length:Int) +1) x (some (longer C.name v)) (some (.ref c)) u w)) (.str (nameS (longer C.name v))):=fun Q H q=>by
  rcases longer_ns (long_ok hnm hdp h3) with h | ⟨s,h⟩
  ·rw [h] at q ⊢;exact ⟨rfl,q.now⟩
  ·rw [h] at q ⊢;exact ⟨rfl,q.now⟩
 refine sAppG rfl i.r (full.run trivial fun H1 x1=>⟨_,_,x1.get hW,trivial,?_⟩)
 have i1:=(i.ex x1).own (x:=⟨.frz, .dict (dputs C.given d2)⟩) oc hca
 refine sp_lwidgets (n:=n+1) D.t1 D.t2 D.r2 o.t.symm o.tr.symm o.p.symm i1.g i1.po i1.hd (Nat.le_trans h1.ok.len (by decide)) (h2 _ (by decide)) (by rw [len1];exact Nat.lt_of_le_of_lt (Nat.add_le_add_right hT 1) (by decide)) fun T' d3 wids sts H2 hw g2 p2 a2 c2=>?_
 obtain ⟨q1,q2,q3,r,q4,q5⟩:=leaf_q (above:=C.above) (e:=e) hnum hw h1 h2 h3 hnm hdp hg
 have r2:=c2.get i1.r (not3 D.t3.symm D.p3.symm o.r)
 have g2':=c2.get i1.gr (not3 D.t4.symm D.p4.symm o.g)
 have i2:NdI C a T' R G d3 H0 H2:=⟨g2,p2,r2,g2',a2,i1.ch.sub c2 fun j hj=>by
  rcases List.mem_cons.mp hj with rfl | hj
  ·exact .inl (.head _)
  ·rcases List.mem_cons.mp hj with rfl | hj
   ·exact .inl (.tail _ (.head _))
   ·rw [List.mem_singleton.mp hj];exact .inr o.le⟩
 refine ⟨_,r2,Nat.lt_of_le_of_lt hR (Nat.lt_of_lt_of_le (by decide:300 < 100000) (Nat.le_refl _)),q T' d3 [r] [] w _ ⟨?_,q1,q2,q3,q5,Nat.zero_le _⟩⟩
 rw [List.append_nil,← q4]
 exact i2.setR D o
end
end Mine
end
section
namespace Mine
open PySem
noncomputable def AbOk (above:MV):Prop:=above= .none∨∃k,above=rf k
structure NdIn (e:Nat)(C:NC)(T:Tab)(R G:List MV)(H:Hp):Prop where
 g:Gt C.t C.tr T H
 po:PoolAt C.p H
 r:H[C.cr]?=some (cL R)
 gr:H[C.cg]?=some (cL G)
 tl:T.length+sz e≤280
 rl:R.length+sz e≤280
 gl:G.length+sz e≤280
noncomputable def NC.args (C:NC):List MV:=[.ref C.p,shv C.t C.tr,C.above,C.name, .dct C.given, .int C.deep, .ref C.cr, .ref C.cg]
noncomputable def NodeSpec (e n:Nat):Prop:=∀(C:NC)(T:Tab)(R G:List MV)(H:Hp)(E:Hp→Prop)(Q:Po MV),C.Dis→NdIn e C T R G H→AbOk C.above→NmOk C.deep C.name→HdI C.given→C.deep+e=2→(∀u H',NodePost e C T R G H u H'→Q u H')→cl n false E 732 C.args Q H
section
variable {C:NC}{a c e n:Nat}{T T':Tab}{R G G':List MV}{d d2:Dict}{H0 H:Hp}{rs:List Rw}{v:MV}{E:Hp→Prop}{Q:Po MV}{M:Loc→Hp→Prop}{x y z u w:Option MV}
theorem kb2 {t u a b n:Nat}(h:t+ (a+b)≤n)(k:u≤t+b):u+a≤n:=Nat.le_trans (Nat.add_le_add_right k a) (by rw [Nat.add_assoc,Nat.add_comm b a];exact h)
theorem kb3 {t a b n:Nat}(h:t+ (a+b)≤n):t+b≤n:=Nat.le_trans (Nat.add_le_add_left (Nat.le_add_left b a) t) h
theorem kids_loop (IH:NodeSpec e n)(D:C.Dis)(hab:AbOk C.above)(hnm:NmOk C.deep C.name)(hg:HdI C.given)(hde:C.deep+e=2){f:MV→Po (List MV)→Hp→Prop}(hf:∀x Q H,cl n false noE 732 C.args (fun v=>Q [v]) H→f x Q H){xs:List MV}:∀ {T:Tab}{R G:List MV}{H:Hp}{Q:Po (List MV)},Gt C.t C.tr T H→PoolAt C.p H→H[C.cr]?=some (cL R)→H[C.cg]?=some (cL G)→T.length+xs.length * sz e≤280→R.length+xs.length * sz e≤280→G.length+xs.length * sz e≤280→
  (∀T' ks rs G' H',KdQ (e+1) (sz e) xs.length T T' C.above C.name C.given ks rs→(0 < C.deep→Nmd T' ks)→Gt C.t C.tr T' H'→PoolAt C.p H'→H'[C.cr]?=some (cL (R ++ rs.map Rw.row))→H'[C.cg]?=some (cL (G ++ G'))→G'.length≤xs.length * sz e→Chg C.S H H'→Q (ks.map rf) H')→eachM f xs Q H:=by
 induction xs with
 | nil=>exact fun {T R G H Q} g po r gr _ _ _ q=>q T [] [] [] H .nil (fun _ k hk=>absurd hk List.not_mem_nil) g po (by rw [List.map_nil,List.append_nil];exact r) (by rw [List.append_nil];exact gr) (Nat.zero_le _) (.of .rfl')
 | cons x xs ih=>
  intro T R G H Q g po r gr b1 b2 b3 q
  have hm:(xs.length+1) * sz e=xs.length * sz e+sz e:=Nat.succ_mul ..
  rw [List.length_cons,hm] at b1 b2 b3
  refine hf x _ H (IH C T R G H _ _ D ⟨g,po,r,gr,kb3 b1,kb3 b2,kb3 b3⟩ hab hnm hg hde fun u H1 post=>?_)
  obtain ⟨T1,rs1,G1,rfl,q1,q2,g1,p1,r1,gr1,gl1,c1⟩:=post
  have a1:=q1.hi
  have a2:=q1.rl
  refine ih g1 p1 r1 gr1 (kb2 b1 a1) (by rw [List.length_append,List.length_map];exact kb2 b2 (Nat.add_le_add_left a2 _)) (by rw [List.length_append];exact kb2 b3 (Nat.add_le_add_left gl1 _)) fun T' ks rs2 G2 H2 k1 k2 g2 p2 r2 gr2 gl2 c2=>q T' _ (rs1 ++ rs2) (G1 ++ G2) H2 (.cons q1 k1) (fun h0=>nmd_cons q1 k1.agr (q2 h0) (k2 h0)) g2 p2 (by rw [List.map_append,← List.append_assoc];exact r2) (by rw [← List.append_assoc];exact gr2) ?_ (c1.tr c2)
  rw [List.length_append,List.length_cons,hm,Nat.add_comm]
  exact Nat.add_le_add gl2 gl1
theorem sIxC {K:Kx}{l:Loc}{b:Cs}{o i e:Cd MV}(h:e K l (fun v=>o K l fun a=>i K l fun k h=>setM a k v h (b K M l)) H):sq (ixS o i e) b K M l H:=h
theorem lcpC {K:Kx}{l:Loc}{e:Cd (List MV)}{Q:Po MV}(h:e K l (fun ys=>mkList false ys Q) H):lcp false e K l Q H:=h
theorem icompC {τ:Type}{hs:List (Option Nat)}{t:Tg}{it:Cd (List MV)}{cc:Cd Bool}{inner:Cd (List τ)}{K:Kx}{l:Loc}{Q:Po (List τ)}(h:it K l (fun xs=>eachM (turn t cc inner K.quiet (hide hs l)) xs Q) H):icomp hs t it cc inner K l Q H:=h
theorem iranC {K:Kx}{l:Loc}{e:Cd MV}{Q:Po (List MV)}(h:e K l (fun v h=>K.hd=false∧rangeM v fun xs=>Q xs h) H):iran e K l Q H:=h
theorem hand_rd {W:Dict}{K:Kx}{l:Loc}{i:Nat}(hh:K.hd=false)(e1:lat l i=some (.ref c)):Rd (cellV c (cD W)) (blt false .dict [(lcp false (icomp [none,none,some i] (.one 1) (iover (tupC [(cst (.str "FT")),(cst (.str "Ff")),(cst (.str "V")),(cst (.str "DV")),(cst (.str "MaxLen")),(cst (.str "Opt"))])) (tAnd (tCmp .in (lv 1) (lv 2)) yes) (ione (tupC [(lv 1),(itm (lv 2) (lv 1))]))))] K l) (.dct (dputs [] (handL W))):=fun Q H q=>by
 have hd:hide [none,none,some i] l= [none,none,some (.ref c)]:=by
  show [none,none,lat l i] =_
  rw [e1]
 have el:sixK.flatMap (fun k=>(handK W k).map keyed) = (handL W).map keyed:=by unfold handL;rw [List.map_flatMap]
 have ll:=handL_le W
 refine ⟨hh,Nat.le_of_ble_eq_true rfl,?_⟩
 rw [hd]
 refine (each_map (V:=cellV c (cD W)) (u:=strV) (rs:=sixK) (g:=fun k=>(handK W k).map keyed) fun k hk Q H q=>?_).run q.1 fun H2 x2=>?_
 ·have e:∀o,dlook W (.inr (Str.ofString k)) =o→Ev (cellV c (cD W)) (Q ((pairO (.inr (Str.ofString k)) o).map keyed)) H:=fun o ho=>by rw [← ho];exact q
  cases hd:dlook W (.inr (Str.ofString k)) with
  | none=>exact ⟨_,q.1,bF (congrArg Option.isSome hd) (e _ hd).now⟩
  | some v=>exact ⟨_,q.1,bT (congrArg Option.isSome hd) ⟨_,q.1,_,hd,(e _ hd).now⟩⟩
 ·rw [el]
  have l6:((handL W).map keyed).length≤sizeMost:=by rw [List.length_map];exact Nat.le_trans ll (Nat.le_of_ble_eq_true rfl)
  exact ⟨l6,hh,handL W,rfl,Nat.le_trans ll (Nat.le_of_ble_eq_true rfl),Nat.le_trans dputs_len (by rw [List.length_nil,Nat.zero_add];exact Nat.le_trans ll (Nat.le_of_ble_eq_true rfl)),q.ex x2⟩
end
end Mine
end
section
namespace Mine
open PySem
section
variable {C:NC}{a c e n:Nat}{T T':Tab}{R G G':List MV}{d d2:Dict}{H0 H:Hp}{rs:List Rw}{v:MV}{E:Hp→Prop}{Q:Po MV}{M:Loc→Hp→Prop}{x y z u w:Option MV}
theorem nd_gr (IH:NodeSpec e (n+1))(D:C.Dis)(o:C.Off H0 a)(i:NdI C a (T ++ [((T.length:Int) +1,[])]) R G d2 H0 H)(hW:H[c]?=some (cD (dputs C.given d2)))(hnum:NumT T)(hT:T.length+sz (e+1)≤280)(hR:R.length+sz (e+1)≤280)(hG:G.length+sz (e+1)≤280)(h1:HdI d2)(h3:TnOk d2 v)(hnm:NmOk C.deep C.name)(hde:C.deep+ (e+1) =2)(hg:HdI C.given)
  (q:∀T' d3 rs G' w H',Mid (e+1) C a T R G v H0 T' d3 rs G' H'→M (C.loc a ((T.length:Int) +1) x (some (longer C.name v)) (some (.ref c)) u w) H'):ndG (KF (n+1) false E Q) M (C.loc a ((T.length:Int) +1) x (some (longer C.name v)) (some (.ref c)) u w) H:=by
 have len1:(T ++ [((T.length:Int) +1,([]:Dict))]).length=T.length+1:=List.length_append
 have hszz:sz (e+1) =1+2 * sz e:=rfl
 have Gl:G.length < sizeMost:=Nat.lt_of_le_of_lt (Nat.le_trans (Nat.le_add_right _ _) hG) (Nat.lt_of_lt_of_le (by decide:280 < 100000) (Nat.le_refl _))
 refine sA (V:=cellV c (cD (dputs C.given d2))) hW (hand_rd rfl rfl) fun H1 x1=>sApp (V:=vAll) rfl trivial (i.ex x1).gr Gl (rTupC (rCons (rLv rfl) (rCons (rLv rfl) rNil))) fun H2 x2=>?_
 have i2:=((i.ex x1).ex x2).setG (L:=G ++ [MV.tup [rf ((T.length:Int) +1),C.above]]) D o
 refine sIxC (lcpC (icompC (iranC (dAdd1 (m:=2) (I:=ndInv C a (T ++ [((T.length:Int) +1,[])]) R (G ++ [MV.tup [rf ((T.length:Int) +1),C.above]]) d2 H0 D o) (dTake rfl rfl rfl (by decide) (by decide)) _ _ i2 fun v3 H3 i3 ⟨k,hv,k1,k2⟩=>?_))))
 subst hv
 have i3:NdI C a (T ++ [((T.length:Int) +1,[])]) R (G ++ [MV.tup [rf ((T.length:Int) +1),C.above]]) d2 H0 H3:=i3
 have xl:((List.range k).map natV).length=k:=by rw [List.length_map,List.length_range]
 have hm2:k * sz e≤2 * sz e:=Nat.mul_le_mul_right _ k2
 refine ⟨rfl,Int.ofNat_le.mpr (Nat.le_trans k2 (Nat.le_of_ble_eq_true rfl)),Int.le_trans (by decide) (Int.natCast_nonneg k),?_⟩
 refine kids_loop (C:=⟨C.t,C.tr,C.p,C.cr,C.cg,rf ((T.length:Int) +1),longer C.name v,dputs [] (handL (dputs C.given d2)),C.deep+1⟩) (n:=n+1) IH ⟨D.t1,D.t2,D.t3,D.t4,D.r2,D.r3,D.r4,D.p3,D.p4,D.c4⟩ (.inr ⟨_,rfl⟩) (nm_next hnm h3) (hand_ok (hg.puts h1)) (by show C.deep+1+e=2;omega) (fun x Q H h=>h) (xs:=(List.range k).map natV) i3.g i3.po i3.r i3.gr (by rw [xl,len1];omega) (by rw [xl];omega) (by rw [xl,List.length_append,List.length_singleton];omega) fun T' ks rs G' H4 kq nm g4 p4 r4 gr4 gl4 c4=>?_
 rw [xl] at kq gl4
 have kl:=kq.kl
 have a4:=c4.get i3.hd (fun hm=>by
  rcases List.mem_cons.mp hm with h | hm
  ·exact o.t h.symm
  ·exact not3 o.p.symm o.r.symm o.g.symm hm)
 have i4:NdI C a T' (R ++ rs.map Rw.row) (G ++ ([MV.tup [rf ((T.length:Int) +1),C.above]] ++ G')) d2 H0 H4:=⟨g4,p4,r4,by rw [← List.append_assoc];exact gr4,a4,i3.ch.tr c4⟩
 obtain ⟨q1,q2,q3,q4⟩:=group_q (above:=C.above) hnum k1 k2 kq (nm (Nat.succ_pos _)) h1 h3 hnm (by omega) hg
 exact ⟨by rw [List.length_map,kl];exact Nat.le_trans k2 (Nat.le_of_ble_eq_true rfl),_,a4,len_lt h1.ok,q T' _ rs _ _ _ ⟨i4.put o,q1,q2,q3,q4,by rw [List.length_append,List.length_singleton,hszz];omega⟩⟩
end
end Mine
end
section
namespace Mine
open PySem
section
variable {C:NC}{a c e n:Nat}{T T':Tab}{R G G':List MV}{d d2 full:Dict}{H0 H:Hp}{rs:List Rw}{v:MV}{E:Hp→Prop}{Q:Po MV}{M:Loc→Hp→Prop}{x y z u w:Option MV}{home:Int}{b:Cs}{K:Kx}{l:Loc}
theorem whole_loop (hh:K.hd=false)(ha:H[a]?=some (cD full))(hc:H[c]?=some (cD C.given))(hac:a≠c)(hn:NoDupK full)(hl:C.given.length+full.length≤1000)(q:∀u H',H'[c]?=some (cD (dputs C.given full))→Chg [c] H H'→b K M (C.loc a home x y (some (.ref c)) u w) H'):sq (forK (.one 13) 9 (sq (ixS (lv 12) (lv 13) (itm (lv 9) (lv 13))) skp)) b K M (C.loc a home x y (some (.ref c)) u w) H:=by
 refine ⟨hh,_,ha,Nat.le_trans (Nat.le_trans (Nat.le_add_left _ _) hl) (Nat.le_of_ble_eq_true rfl),forL_inv (fun xs l H'=>∃dn rest u,Half full xs dn rest∧l=C.loc a home x y (some (.ref c)) u w∧H'[c]?=some (cD (dputs C.given dn))∧H'[a]?=some ⟨.lock, .dict full⟩∧Chg [c] (H.set a ⟨.lock, .dict full⟩) H') (fun x0 xs l H' i N' hN=>?_) (fun l H' i=>?_) ⟨[],full,u, .start,rfl,at_ne hc hac,at_set ha, .of .rfl'⟩⟩
 ·obtain ⟨dn,rest,u,hf,rfl,h1,h2,ch⟩:=i
  obtain ⟨k,v,r,rfl,hm,lt,hf⟩:=hf.next
  have hk:=look_of_mem hn hm
  have hlen:(dputs C.given dn).length < sizeMost:=Nat.lt_of_le_of_lt (Nat.le_trans dputs_len (Nat.le_trans (Nat.add_le_add_left (Nat.le_of_lt lt) _) hl)) (Nat.lt_of_lt_of_le (by decide:1000 < 100000) (Nat.le_refl _))
  have fin:∀u,N' (C.loc a home x y (some (.ref c)) u w) (H'.set c (cD (dput (dputs C.given dn) k v))):=fun u=>hN _ _ ⟨dn ++ [(k,v)],r,u,hf,rfl,by rw [dputs_app];exact at_set h1,at_ne h2 hac.symm,ch.st (.inl (.head _))⟩
  cases k with
  | inl k=>exact ⟨_,h2,_,hk,_,h1,hlen,fin _⟩
  | inr k=>exact ⟨_,h2,_,hk,_,h1,hlen,fin _⟩
 ·obtain ⟨dn,rest,u,hf,rfl,h1,h2,ch⟩:=i
  rw [hf.done] at h1
  refine ⟨h2,q u _ (at_ne h1 hac) ⟨?_,fun i hi hs=>?_⟩⟩
  ·have:=ch.le
   rw [List.length_set] at this ⊢
   exact this
  ·by_cases w:a=i
   ·subst w
    exact (at_set h2).trans ha.symm
   ·rw [List.getElem?_set_ne w,ch.at' i (by rw [List.length_set];exact hi) hs,List.getElem?_set_ne w]
end
end Mine
end
section
namespace Mine
open PySem
theorem nox_ne:∀x∈ ["AP","AS","Subtype","Kids","I"],sK "T"≠sK x∧sK "Parent"≠sK x∧∀y∈sixK,sK y≠sK x:=by decide +kernel
theorem t_ne:sK "Parent"≠sK "T"∧∀y∈sixK,sK y≠sK "T":=by decide +kernel
theorem TnOk.of {d d':Dict}{v:MV}(h:TnOk d v)(e:dlook d' (sK "T") =dlook d (sK "T")):TnOk d' v:=by
 cases h with
 | no h1 h2=>exact .no (e.trans h1) h2
 | part p hp h1 h2=>exact .part p hp (e.trans h1) h2
structure Hd (d:Dict)(v:MV):Prop where
 ok:HdI d
 no:NoX d
 tn:TnOk d v
section
variable {C:NC}{a c e n:Nat}{T T':Tab}{R G G':List MV}{d d2:Dict}{H0 H:Hp}{v:MV}{E:Hp→Prop}{Q:Po MV}{M:Loc→Hp→Prop}{x y z u w:Option MV}{b:Cs}{K:Kx}{l:Loc}
theorem rAndF {V:View}{t u:Cd Bool}(h:Rd V (t K l) false):Rd V (tAnd t u K l) false:=fun Q H q=>h _ H q
structure NdC (e:Nat)(C:NC)(T:Tab)(R G:List MV):Prop where
 D:C.Dis
 num:NumT T
 tl:T.length+sz e≤280
 rl:R.length+sz e≤280
 gl:G.length+sz e≤280
 ab:AbOk C.above
 nm:NmOk C.deep C.name
 gi:HdI C.given
 de:C.deep+e=2
noncomputable def ndInvC (C:NC)(a c:Nat)(T:Tab)(R G:List MV)(d W:Dict)(H0:Hp)(D:C.Dis)(o:C.Off H0 a)(oc:C.Off H0 c):Inv C.p:=⟨fun H=>NdI C a T R G d H0 H∧H[c]?=some (cD W),fun i=>i.1.po,fun i ch po=>⟨(ndInv C a T R G d H0 D o).ch i.1 ch po,ch.get i.2 (not1 oc.p.symm)⟩⟩
theorem nd_c (IH:∀e',e=e'+1→NodeSpec e' (n+4))(N:NdC e C T R G)(o:C.Off H0 a)(oc:C.Off H0 c)(hca:c≠a)(i:NdI C a (T ++ [((T.length:Int) +1,[])]) R G d H0 H)(hW:H[c]?=some (cD (dputs C.given d)))(h:Hd d v)(hv:0 < C.deep→isN v=false)(q:∀u H',NodePost e C T R G H0 u H'→Q u H'):ndC (KF (n+4) false E Q) M (C.loc a ((T.length:Int) +1) x (some (longer C.name v)) (some (.ref c)) u w) H:=by
 have hs:=sz_ge e
 have de:=N.de
 have tl:=N.tl
 have lf:∀ {H},NdI C a (T ++ [((T.length:Int) +1,[])]) R G d H0 H→H[c]?=some (cD (dputs C.given d))→ndL (KF (n+4) false E Q) (ndE (KF (n+4) false E Q) M) (C.loc a ((T.length:Int) +1) x (some (longer C.name v)) (some (.ref c)) u w) H:=fun i hW=>nd_lf N.D o oc hca i hW N.num (by omega) (by have:=N.rl;omega) h.ok h.no h.tn N.nm (by omega) N.gi fun T' d3 rs G' w H' m=>nd_end (n:=n+3) N.D o m hv (by omega) q
 by_cases hd:C.deep < 2
 ·have lt:Rd vAll (tCmp .lt (lv 5) (cst (.int 2)) (KF (n+4) false E Q) (C.loc a ((T.length:Int) +1) x (some (longer C.name v)) (some (.ref c)) u w)) (decide ((C.deep:Int) < 2)):=rCmp (v:= .int C.deep) (w:= .int 2) (fun Q H q=>q.now) rCst fun _ _ q=>q
  refine wI (I:=ndInvC C a c (T ++ [((T.length:Int) +1,[])]) R G d (dputs C.given d) H0 N.D o oc) ⟨i,hW⟩ (dAnd (dRd lt (fun _=>trivial) trivial) (dAnd (dEq (dTake rfl rfl rfl (m:=3) (by decide) (by decide))) dYes)) (fun H2 j=>?_) fun H2 j=>lf j.1 j.2
  cases e with
  | zero=>exact absurd hd (by omega)
  | succ e=>exact nd_gr (n:=n+3) (IH e rfl) N.D o j.1 j.2 N.num N.tl N.rl N.gl h.ok h.tn N.nm N.de N.gi fun T' d3 rs G' w H' m=>nd_end (n:=n+3) N.D o m hv (by omega) q
 ·exact sF (V:=vAll) trivial (rAndF (rCmp (v:= .int C.deep) (w:= .int 2) (B:=false) (fun Q H q=>q.now) rCst fun _ Q q=>(show Q (decide ((C.deep:Int) < 2)) by rw [decide_eq_false (show ¬ (C.deep:Int) < 2 by omega)];exact q))) fun H2 x2=>lf (i.ex x2) (x2.get hW)
theorem sDup {i j:Nat}{es:Dict}(hh:K.hd=false)(e1:lat l j=some (.dct es))(hl:es.length≤sizeMost)(q:b K M (lput l i (.ref H.length)) (H ++ [cD es])):sq (asS (.one i) (blt true .dict [lv j])) b K M l H:=by
 show lv j K l (fun v=>prim true K.hd .dict [v] fun v h=>b K M (lput l i v) h) H
 exact lvE K e1 ⟨hh,hl,q⟩
theorem nd_b (IH:∀e',e=e'+1→NodeSpec e' (n+4))(N:NdC e C T R G)(o:C.Off H0 a)(i:NdI C a (T ++ [((T.length:Int) +1,[])]) R G d H0 H)(h:Hd d v)(hv:0 < C.deep→isN v=false)(q:∀u H',NodePost e C T R G H0 u H'→Q u H'):ndB (KF (n+4) false E Q) M (C.loc a ((T.length:Int) +1) x (some (longer C.name v)) none none none) H:=by
 have nn:∀k,(∀y∈sixK,sK y≠k)→k∉sixK.map sK:=fun k hk hm=>by
  obtain ⟨y,hy,e⟩:=List.mem_map.mp hm
  exact hk y hy e
 refine sp_lentries (h0:=o.p.symm) (d0:=d) (H0:=H) (n:=n) ⟨i.po,⟨d,i.hd,h.ok,fun _ _=>rfl⟩, .of .rfl'⟩ N.gi fun H2 en=>?_
 have en:EnI C.p a H d H2:=en
 obtain ⟨d7,e1,e2,e3⟩:=en.hd
 have n2:∀ {j},j≠C.p→j≠a→j∉ [C.p,a]:=fun x y hm=>by
  rcases List.mem_cons.mp hm with hm | hm
  ·exact x hm
  ·exact y (List.mem_singleton.mp hm)
 have i7:NdI C a (T ++ [((T.length:Int) +1,[])]) R G d7 H0 H2:=⟨i.g.chg en.ch (n2 N.D.t2 o.t) (n2 N.D.r2 o.tr),en.po,en.ch.get i.r (n2 N.D.p3.symm o.r),en.ch.get i.gr (n2 N.D.p4.symm o.g),e1,i.ch.sub en.ch fun j hj=>by
  rcases List.mem_cons.mp hj with rfl | hj
  ·exact .inl (.tail _ (.head _))
  ·rw [List.mem_singleton.mp hj];exact .inr o.le⟩
 have h7:Hd d7 v:=⟨e2,fun k hk=>(e3 _ (nn _ (nox_ne k hk).2.2)).trans (h.no k hk),h.tn.of (e3 _ (nn _ t_ne.2))⟩
 have gl:=N.gi.ok.len
 refine sDup rfl rfl (Nat.le_trans gl (Nat.le_of_ble_eq_true rfl)) ?_
 have i8:=i7.ex (Ext.rfl'.al (c:=cD C.given))
 have oc:C.Off H0 H2.length:=⟨Nat.ne_of_lt (at_lt i7.g.t),Nat.ne_of_lt (at_lt i7.g.tr),i7.po.elim fun _ h=>Nat.ne_of_lt (at_lt h.1),Nat.ne_of_lt (at_lt i7.r),Nat.ne_of_lt (at_lt i7.gr),i7.ch.le⟩
 have hac:a≠H2.length:=Nat.ne_of_lt (at_lt e1)
 refine whole_loop (C:=C) (a:=a) (c:=H2.length) rfl i8.hd at_new hac e2.ok.nd (Nat.le_trans (Nat.add_le_add gl e2.ok.len) (by decide)) fun u H' h1 ch=>?_
 exact nd_c IH N o oc hac.symm ⟨i8.g.chg ch (not1 oc.t) (not1 oc.tr),i8.po.chg ch (not1 oc.p),ch.get i8.r (not1 oc.r),ch.get i8.gr (not1 oc.g),ch.get i8.hd (not1 hac),i8.ch.sub ch fun j hj=> .inr (by rw [List.mem_singleton.mp hj];exact oc.le)⟩ h1 h7 hv q
end
end Mine
end
section
namespace Mine
open PySem
section
variable {C:NC}{a c e n:Nat}{T T':Tab}{R G G':List MV}{d d2:Dict}{H0 H:Hp}{v:MV}{E:Hp→Prop}{Q:Po MV}{M:Loc→Hp→Prop}{x y z u w:Option MV}{K:Kx}{home:Int}{p:String × UInt8}
theorem NoX.put {k:String}{u:MV}(h:NoX d)(hk:∀x∈ ["AP","AS","Subtype","Kids","I"],sK k≠sK x):NoX (dput d (sK k) u):=fun x hx=>(put_other (hk x hx)).trans (h x hx)
theorem full_rd (hv:TnOk d v)(hp:v= .none∨v= .str p.1)(hL:LongOk C.name v):Rd (cellV a (cD d)) (tIf (tCmp .notin (cst (.str "T")) (lv 9)) (lv 3) (tIf (tCmp .is (lv 3) (cst .none)) (lv 10) (bin .add (bin .add (lv 3) (cst (.str "."))) (lv 10))) K (C.loc a home (some (.str p.1)) y z u w)) (longer C.name v):=fun Q H q=>by
 have t:∀b,(dlook d (sK "T")).isSome=b→(!(dlook d (sK "T")).isSome) = !b:=fun b h=>congrArg not h
 cases hv with
 | no h1 e=>
  subst e
  have e:longer C.name .none=C.name:=by cases C.name <;> rfl
  rw [e] at q
  exact ⟨_,q.1,bT (t false (congrArg Option.isSome h1)) q.now⟩
 | part r _ h1 e=>
  refine ⟨_,q.1,bF (t true (congrArg Option.isSome h1)) ?_⟩
  have hv:v= .str p.1:=hp.elim (fun h=>by rw [h] at e;cases e) fun h=>h
  cases hL with
  | no _ h=>rw [h] at e;cases e
  | first s h h'=>
   rw [h,hv] at q
   exact ⟨rfl,bT (congrArg isN h) q.now⟩
  | both s s' h h' hl=>
   rw [hv] at h'
   have h':Str.ofString p.1=s':=congrArg nameS h'
   subst h'
   rw [h,hv] at q
   refine ⟨rfl,bF (congrArg isN h) ?_⟩
   show bin .add (bin .add (lv 3) (cst (.str "."))) (lv 10) K (C.loc a home (some (.str p.1)) y z u w) Q H
   have e3:lat (C.loc a home (some (.str p.1)) y z u w) 3=some (.str s):=congrArg some h
   exact rAdd (V:=cellV a (cD d)) (rAdd (rLv e3) rCst (Nat.le_trans (Nat.le_trans (Nat.le_add_right _ _) hl) (Nat.le_of_ble_eq_true rfl))) (rLv rfl) (by
    rw [show (s ++ (Str.ofString ".")).length=s.length+1 from Array.size_append]
    exact Nat.le_trans hl (Nat.le_of_ble_eq_true rfl)) Q H q
theorem nd_a (IH:∀e',e=e'+1→NodeSpec e' (n+4))(N:NdC e C T R G)(o:C.Off H0 a)(i:NdI C a (T ++ [((T.length:Int) +1,[])]) R G d H0 H)(h:Hd d v)(hp:v= .none∨v= .str p.1)(hv:0 < C.deep→isN v=false)(q:∀u H',NodePost e C T R G H0 u H'→Q u H'):ndA (KF (n+4) false E Q) M (C.loc a ((T.length:Int) +1) (some (.str p.1)) none none none none) H:=by
 have de:=N.de
 refine sA (V:=cellV a (cD d)) i.hd (full_rd h.tn hp (long_ok N.nm (by omega) h.tn)) fun H1 x1=>?_
 have go:∀ {d' H2},NdI C a (T ++ [((T.length:Int) +1,[])]) R G d' H0 H2→Hd d' v→ndB (KF (n+4) false E Q) M (C.loc a ((T.length:Int) +1) (some (.str p.1)) (some (longer C.name v)) none none none) H2:=fun i h=>nd_b IH N o i h hv q
 rcases N.ab with hab | ⟨k,hab⟩
 ·exact sF0 (V:=vAll) trivial (rCmp (v:=C.above) (B:=false) (fun Q H q=>q.now) rCst fun _ Q q=>⟨rfl,(congrArg (fun v=> !isN v) hab:(!isN C.above) =false)▸q⟩) fun H2 x2=>go ((i.ex x1).ex x2) h
 ·refine sT (V:=vAll) trivial (rCmp (v:=C.above) (B:=true) (fun Q H q=>q.now) rCst fun _ Q q=>⟨rfl,(congrArg (fun v=> !isN v) hab:(!isN C.above) =true)▸q⟩) fun H2 x2=>?_
  have i2:=(i.ex x1).ex x2
  refine sIx (V:=vAll) (v:=C.above) trivial (fun Q H q=>q.now) (rLv rfl) i2.hd (len_lt h.ok.ok) fun H3 x3=>skpI (go ((i2.ex x3).put o) ⟨h.ok.putO (by decide) (hab▸ .ref k) sx0.2.2.2.2.2,h.no.put fun x hx=>(nox_ne x hx).2.1,h.tn.of (put_other t_ne.1)⟩)
theorem nd_t (IH:∀e',e=e'+1→NodeSpec e' (n+4))(N:NdC e C T R G)(o:C.Off H0 a)(hp:p∈parts)(i:NdI C a (T ++ [((T.length:Int) +1,[])]) R G [] H0 H)(q:∀u H',NodePost e C T R G H0 u H'→Q u H'):ndT (KF (n+4) false E Q) M (C.loc a ((T.length:Int) +1) (some (.str p.1)) none none none none) H:=by
 have nx:NoX []:=fun x hx=>rfl
 have yes:∀ {H},NdI C a (T ++ [((T.length:Int) +1,[])]) R G [] H0 H→sq (ixS (lv 9) (cst (.str "T")) (kall 217 [(blt false .bytes [(lstC false [(blt false .ord [(lv 10)])])])])) skp (KF (n+4) false E Q) (ndA (KF (n+4) false E Q) M) (C.loc a ((T.length:Int) +1) (some (.str p.1)) none none none none) H:=fun {H} i=>by
  refine sIx (V:=vAll) (v:=sg [p.2]) trivial (fun Q H q=>⟨rfl,p.2.toNat,(part_ok p hp).1.symm,show 1≤sizeMost from Nat.le_of_ble_eq_true rfl,rfl,[p.2],rfl,show 1≤sizeMost from Nat.le_of_ble_eq_true rfl,mk217 q.now⟩) (rLv rfl) i.hd (Nat.lt_of_lt_of_le (by decide:0 < 100000) (Nat.le_refl _)) fun H2 x2=>skpI (nd_a (p:=p) IH N o ((i.ex x2).put o) ⟨HdI.nil.putO (by decide) (.str _) sx0.2.2.2.2.1,nx.put fun x hx=>(nox_ne x hx).1, .part p hp put_same rfl⟩ (.inr rfl) (fun _=>rfl) q)
 by_cases hd:0 < C.deep
 ·refine sT (V:=vAll) trivial (fun Q H q=>?_) fun H2 x2=>yes (i.ex x2)
  exact bT (decide_eq_true (Int.ofNat_lt.mpr hd)) q.now
 ·have gt:Rd vAll (tCmp .gt (lv 5) (cst (.int 0)) (KF (n+4) false E Q) (C.loc a ((T.length:Int) +1) (some (.str p.1)) none none none none)) (decide ((0:Int) < C.deep)):=rCmp (v:= .int C.deep) (w:= .int 0) (fun Q H q=>q.now) rCst fun _ _ q=>q
  refine wI (I:=ndInv C a (T ++ [((T.length:Int) +1,[])]) R G [] H0 N.D o) i (dOr (dRd gt (fun _=>trivial) trivial) (dOr (dLt (dTake rfl rfl rfl (m:=5) (by decide) (by decide))) dNo)) (fun H2 i2=>yes i2) fun H2 i2=>skpI (nd_a (p:=p) IH N o i2 ⟨.nil,nx, .no rfl rfl⟩ (.inl rfl) (fun h=>absurd h hd) q)
theorem node_step (IH:∀e',e=e'+1→NodeSpec e' (n+4)):NodeSpec e (n+5):=fun C T R G H E Q D I hab hnm hg hde q=>in732 (by
 have hs:=sz_ge e
 have tl:=I.tl
 refine ⟨Nat.zero_le _,sp_add I.g.t I.g.num (by omega) ⟨Nat.zero_le _,rfl,put2 ?_⟩⟩
 have i1:NdI C (H.set C.t (cD (tabE (T ++ [((T.length:Int) +1,[])])))).length (T ++ [((T.length:Int) +1,[])]) R G [] H ((H.set C.t (cD (tabE (T ++ [((T.length:Int) +1,[])])))) ++ [cD []]):=⟨(I.g.app D.t1 .nil).ex Ext.rfl'.al,PoolAt.ex (I.po.imp fun _ h=>⟨at_ne h.1 D.t2,h.2⟩) Ext.rfl'.al,at_app (at_ne I.r D.t3),at_app (at_ne I.gr D.t4),at_new,((Chg.of .rfl').st (.inl (.head _))).al⟩
 have ln:(H.set C.t (cD (tabE (T ++ [((T.length:Int) +1,[])])))).length=H.length:=List.length_set
 rw [ln] at i1
 have o:C.Off H H.length:=⟨Nat.ne_of_lt (at_lt I.g.t),Nat.ne_of_lt (at_lt I.g.tr),I.po.elim fun _ h=>Nat.ne_of_lt (at_lt h.1),Nat.ne_of_lt (at_lt I.r),Nat.ne_of_lt (at_lt I.gr),Nat.le_refl _⟩
 show ndP (KF (n+4) false E Q) _ (C.loc (H.set C.t (cD (tabE (T ++ [((T.length:Int) +1,[])])))).length ((T.length:Int) +1) none none none none none) ((H.set C.t (cD (tabE (T ++ [((T.length:Int) +1,[])])))) ++ [cD []])
 rw [ln]
 refine wA (I:=ndInv C H.length (T ++ [((T.length:Int) +1,[])]) R G [] H D o) i1 (dAt (m:=3) (xs:=parts.map fun p:String × UInt8=>strV p.1) (fun Q H q=>q.now) (dTake rfl rfl rfl (by decide) (by decide)) rfl (by decide)) fun v H2 i2 hv=>?_
 obtain ⟨p,hp,rfl⟩:=List.mem_map.mp hv
 exact nd_t IH ⟨D,I.g.num,I.tl,I.rl,I.gl,hab,hnm,hg,hde⟩ o hp i2 q)
theorem node_ok {e:Nat}:NodeSpec e (n+5+e):=by
 induction e with
 | zero=>exact node_step fun e' h=>by cases h
 | succ e ih=>
  have:=node_step (e:=e+1) (n:=n+e+1) fun e' h=>by
   cases h
   rw [show n+e+1+4=n+5+e by omega];exact ih
  rw [show n+5+ (e+1) =n+e+1+5 by omega];exact this
end
end Mine
end
section
namespace Mine
open PySem
noncomputable def fmC:Cs:=(sq (ixS (fd 375 1 (lv 1)) (cst (.str "Root")) (lv 2)) (sq (retS (tupC [(lv 1),(frL (lv 3)),(frL (lv 4))])) skp))
noncomputable def fmB:Cs:=(sq (exS (mtd 375 339 (lv 1) [(fd 266 0 (lv 2)),(cst (.int 0)),(dctC false [((cst (.str "AcroForm")),(tIf (tCmp .eq (kall 698 [(lv 0),(cst (.int 2))]) (cst (.int 1))) (mtd 375 346 (lv 1) [(lv 5)]) (lv 5)))])])) fmC)
noncomputable def fmA:Cs:=(sq (asS (.one 5) (dctC false [((cst (.str "Fields")),(lcp false (icomp [none,none,none,some 4,some 0,some 3,some 1] (.one 1) (iran (bin .add (cst (.int 1)) (kall 698 [(lv 0),(cst (.int 2))]))) yes (ione (kall 732 [(lv 4),(lv 6),(cst .none),(cst .none),(dctC false []),(cst (.int 0)),(lv 5),(lv 3)])))))])) fmB)
noncomputable def formD (ks:List Int):Dict:=[(sK "Fields", .lst (ks.map rf))]
structure FormOk (T:Tab)(rs:List Rw)(pl:Option Int)(d:Dict)(ks:List Int)(lo hi:Int):Prop where
 tb:TbOk T
 fr:FormR T rs d (formD ks) ks lo hi
 fp:FormP T pl d (formD ks)
 aw:∀r∈rs,¬ r.has 1∧∀k,pl=some k→¬ r.has k
 nd:(rs.map (·.num)).Nodup
 noI:∀r∈rs,NoI T r.num
 ne:rs≠ []
 fd:DOk (formD ks)
 pk:PlainV 2 (.lst (ks.map rf))
inductive FmT (T1:Tab)(ks:List Int):Tab→Option Int→MV→Prop
 | here:FmT T1 ks T1 none (.dct (formD ks))
 | far:FmT T1 ks (T1 ++ [((T1.length:Int) +1,formD ks)]) (some ((T1.length:Int) +1)) (rf ((T1.length:Int) +1))
noncomputable def acroD (x:MV):Dict:=[(sK "AcroForm",x)]
theorem ks_plain {ks:List Int}{d:Nat}(h:ks.length≤2):PlainV (d+2) (.lst (ks.map rf)):= .lst (by rw [List.length_map];exact Nat.lt_of_le_of_lt h (by decide)) fun x hx=>by
 obtain ⟨y,_,rfl⟩:=List.mem_map.mp hx
 exact .ref y
theorem form_dok {ks:List Int}(h:ks.length≤2):DOk (formD ks):=⟨List.nodup_cons.mpr ⟨List.not_mem_nil,List.nodup_nil⟩,fun e he=>by rw [List.mem_singleton.mp he];exact inK (by decide),fun e he=>by rw [List.mem_singleton.mp he];exact ks_plain h⟩
theorem acro_dok {T1 T2:Tab}{ks:List Int}{pl:Option Int}{x:MV}(h:ks.length≤2)(hT:FmT T1 ks T2 pl x):DOk (acroD x):=⟨List.nodup_cons.mpr ⟨List.not_mem_nil,List.nodup_nil⟩,fun e he=>by rw [List.mem_singleton.mp he];exact inK (by decide),fun e he=>by
 rw [List.mem_singleton.mp he]
 cases hT with
 | here=>exact .dct (show 1 < 60 by decide) (List.nodup_cons.mpr ⟨List.not_mem_nil,List.nodup_nil⟩) (fun e he=>by rw [List.mem_singleton.mp he];exact ⟨_,rfl⟩) fun e he=>by rw [List.mem_singleton.mp he];exact ks_plain h
 | far=>exact .ref _⟩
theorem form_ok {k:Nat}{T1 T2:Tab}{ks:List Int}{rs:List Rw}{pl:Option Int}{x:MV}(hn1:NumT T1)(ho1:∀q∈T1,DOk q.2)(k1:1≤k)(k2:k≤2)(q:KdQ 3 19 k [(1,([]:Dict))] T1 .none .none [] ks rs)(hT:FmT T1 ks T2 pl x):FormOk (tput T2 1 (acroD x)) rs pl (acroD x) ks 2 ((T1.length:Int) +1):=by
 have lo:1+k≤T1.length:=q.lo
 have hi:T1.length≤1+k * 19:=q.hi
 have hm:k * 19≤2 * 19:=Nat.mul_le_mul_right _ k2
 have kl:ks.length≤2:=by rw [q.kl];exact k2
 obtain ⟨dh,hdh⟩:=num_some hn1 (Int.le_refl 1) (Int.ofNat_le.mpr (show 1≤T1.length by omega))
 have fd:=form_dok kl
 have two:tget T2 1=some dh∧T2.length≤T1.length+1∧AgrOn 2 ((T1.length:Int) +1) T1 T2∧NumT T2∧∀q∈T2,DOk q.2:=by
  cases hT with
  | here=>exact ⟨hdh,Nat.le_succ _,fun _ _ _=>rfl,hn1,ho1⟩
  | far=>exact ⟨(agr_app 1 (Int.ofNat_le.mpr (show 1≤T1.length by omega))).trans hdh,by rw [List.length_append];exact Nat.le_refl _,agr_app.on,num_app hn1,fun q hq=>(List.mem_append.mp hq).elim (ho1 q) fun w=>by rw [List.mem_singleton.mp w];exact fd⟩
 obtain ⟨h2,l2,on2,n2,o2⟩:=two
 have on:AgrOn 2 ((T1.length:Int) +1) T1 (tput T2 1 (acroD x)):=fun y h1 h2=>by
  rw [tget_tput,if_neg (show ¬ (1:Int) =y by omega)]
  exact on2 y h1 h2
 have g1:tget (tput T2 1 (acroD x)) 1=some (acroD x):=by rw [tget_tput,if_pos rfl]
 have l3:=put_len (d3:=acroD x) h2
 have hk:=tput_keys (d:=acroD x) h2
 have inr:∀r∈rs,InR 2 ((T1.length:Int) +1) r:=fun r hr=>(q.rows.ok r hr).2.1
 have fp:FormP (tput T2 1 (acroD x)) pl (acroD x) (formD ks):=by
  cases hT with
  | here=>exact .here g1 (look_t (e:=(sK "AcroForm",_)) rfl)
  | far=>exact .far g1 (look_t (e:=(sK "AcroForm",_)) rfl) (by rw [tget_tput,if_neg (show ¬ (1:Int) = (T1.length:Int) +1 by omega)];exact tget_new hn1)
 refine ⟨⟨by unfold NumT;rw [hk,l3];exact n2,by rw [l3];omega,fun p hp=>(mem_tput hp).elim (o2 p) fun w=>w▸acro_dok kl hT⟩,⟨fp.at',look_t (e:=(sK "Fields",_)) rfl,Nat.le_trans kl (by decide),by omega,WL.cong (fun lo hi k rs h=>walks_lt h) (fun lo' hi' k rs a b p=>p.cong (on.sub a b)) q.w,Nat.le_trans q.rl (Nat.le_trans hm (by decide)),fun r hr=>(q.rows.ok r hr).1.cong on (inr r hr)⟩,fp,fun r hr=>⟨fun h=>absurd (inr r hr 1 h).1 (by decide),fun y hy h=>?_⟩,q.rows.nd,fun r hr=>(q.rows.ok r hr).2.2.cong on (inr r hr _ (.inl rfl)).1 (inr r hr _ (.inl rfl)).2,q.ne k1,fd,ks_plain kl⟩
 cases hT with
 | here=>cases hy
 | far=>
  cases hy
  exact Int.lt_irrefl _ (inr r hr _ h).2
end Mine
end
section
namespace Mine
open PySem
structure FoI (C:NC)(T:Tab)(R G:List MV)(H0 H:Hp):Prop where
 g:Gt C.t C.tr T H
 po:PoolAt C.p H
 r:H[C.cr]?=some (cL R)
 gr:H[C.cg]?=some (cL G)
 ch:Chg C.S H0 H
noncomputable def fmInv (C:NC)(T:Tab)(R G:List MV)(H0:Hp)(D:C.Dis):Inv C.p:=⟨FoI C T R G H0,fun i=>i.po,fun i ch po=>⟨i.g.chg ch (not1 D.t2) (not1 D.r2),po,ch.get i.r (not1 D.p3.symm),ch.get i.gr (not1 D.p4.symm),i.ch.sub ch fun j hj=> .inl (by rw [List.mem_singleton.mp hj];exact .tail _ (.head _))⟩⟩
section
variable {K:Kx}{l:Loc}{M:Loc→Hp→Prop}{H:Hp}{b:Cs}{e a:Cd MV}{es:List (Cd MV)}{t:Cd Bool}{i:Nat}{Q:Po MV}{k:Str}{f c:Addr}{fs:List MV}
theorem sAC (h:e K l (fun v h=>b K M (lput l i v) h) H):sq (asS (.one i) e) b K M l H:=h
theorem dct1C (h:e K l (fun v h=>1≤sizeMost∧Q (.dct [(.inr k,v)]) h) H):dctC false [(cst (.str k),e)] K l Q H:=h
theorem evC {Q:Po (List MV)}(h:e K l (fun v=>evs es K l fun vs=>Q (v::vs)) H):evs (e::es) K l Q H:=h
theorem exC (h:e K l (fun _=>b K M l) H):sq (exS e) b K M l H:=h
theorem tIfC (h:t K l (fun c=>bif c then e K l Q else a K l Q) H):tIf t e a K l Q H:=h
theorem rFd0 {V:View}{k:Int}(e1:lat l i=some (rf k)):Rd V (fd 266 0 (lv i) K l) (.int k):=fun Q H q=>by
 show lv i K l _ H
 exact lvE K e1 q.now
theorem mtdC (e1:lat l i=some (.inst c fs))(h:evs es K l (fun vs=>K.cl K.hd K.E f (.inst c fs::vs) Q) H):mtd c f (lv i) es K l Q H:=by
 show lv i K l _ H
 refine lvE K e1 ?_
 show cond (Nat.beq c c) _ _
 rw [Nat.beq_refl]
 exact h
end
section
variable {p n:Nat}{H:Hp}{E:Hp→Prop}{Q:Po MV}
theorem sp_lform (hp:PoolAt p H)(q:∀t tr T rs pl d ks lo hi G H',(sees t tr T).p H'→FormOk T rs pl d ks lo hi→PoolAt p H'→t≠tr→p≠t→p≠tr→Chg [p] H H'→Q (.tup [shv t tr, .lst (rs.map Rw.row), .lst G]) H'):cl (n+8) false E 737 [.ref p] Q H:=in737 (mk375 (by
 have hpl:p < H.length:=hp.elim fun _ h=>at_lt h.1
 have e1:(H ++ [cD []]).length=H.length+1:=List.length_append
 have t0:(H ++ [cD []] ++ [cD []])[H.length]?=some (cD (tabE [])):=at_app at_new
 have r0:(H ++ [cD []] ++ [cD []])[H.length+1]?=some (cD []):=e1▸at_new
 have p0:PoolAt p (H ++ [cD []] ++ [cD []]):=hp.ex Ext.rfl'.al.al
 have c0:Chg [p] H (H ++ [cD []] ++ [cD []]):= .of Ext.rfl'.al.al
 have l0:(H ++ [cD []] ++ [cD []]).length=H.length+2:=by rw [List.length_append,e1];rfl
 rw [e1]
 generalize H ++ [cD []] ++ [cD []] =H1 at *
 refine ⟨Nat.zero_le _,sp_add (T:=[]) (d:=[]) t0 rfl (by decide) ⟨Nat.zero_le _,Nat.zero_le _,rfl,?_⟩⟩
 have g1:Gt H.length (H.length+1) [(1,[])] (H1.set H.length (cD (tabE [(1,[])]))):=(Gt.app (T:=[]) (d:=[]) ⟨t0,r0,rfl,nofun⟩ (Nat.ne_of_lt (Nat.lt_succ_self _)) .nil)
 have p1:PoolAt p (H1.set H.length (cD (tabE [(1,[])]))):=p0.imp fun _ h=>⟨at_ne h.1 (Nat.ne_of_gt hpl),h.2⟩
 have c1:Chg [p] H (H1.set H.length (cD (tabE [(1,[])]))):=c0.st (.inr (Nat.le_refl _))
 have l1:(H1.set H.length (cD (tabE [(1,[])]))).length=H.length+2:=by rw [List.length_set];exact l0
 show fmA (KF (n+7) false E Q) _ [some (.ref p),some (shv H.length (H.length+1)),some (rf 1),some (.ref (H1.set H.length (cD (tabE [(1,[])]))).length),some (.ref ((H1.set H.length (cD (tabE [(1,[])]))) ++ [cL []]).length),none,none,none,none] ((H1.set H.length (cD (tabE [(1,[])]))) ++ [cL []] ++ [cL []])
 generalize H1.set H.length (cD (tabE [(1,[])])) =H2 at *
 have l2:(H2 ++ [cL []]).length=H.length+3:=by rw [List.length_append,l1];rfl
 have i0:FoI ⟨H.length,H.length+1,p,H2.length,(H2 ++ [cL []]).length, .none, .none,[],0⟩ [(1,[])] [] [] (H2 ++ [cL []] ++ [cL []]) (H2 ++ [cL []] ++ [cL []]):=⟨g1.ex Ext.rfl'.al.al,p1.ex Ext.rfl'.al.al,at_app at_new,at_new, .of .rfl'⟩
 have cc:Chg [p] H (H2 ++ [cL []] ++ [cL []]):=c1.al.al
 rw [l1,l2] at i0 ⊢
 generalize H2 ++ [cL []] ++ [cL []] =H3 at *
 have D:NC.Dis ⟨H.length,H.length+1,p,H.length+2,H.length+3, .none, .none,[],0⟩:=⟨by show H.length≠H.length+1;omega,by show H.length≠p;omega,by show H.length≠H.length+2;omega,by show H.length≠H.length+3;omega,by show H.length+1≠p;omega,by show H.length+1≠H.length+2;omega,by show H.length+1≠H.length+3;omega,by show p≠H.length+2;omega,by show p≠H.length+3;omega,by show H.length+2≠H.length+3;omega⟩
 refine sAC (dct1C (lcpC (icompC (iranC (dAdd1 (m:=2) (I:=fmInv ⟨H.length,H.length+1,p,H.length+2,H.length+3, .none, .none,[],0⟩ [(1,[])] [] [] H3 D) (dTake rfl rfl rfl (by decide) (by decide)) _ _ i0 fun v H4 i4 ⟨k,hv,k1,k2⟩=>?_)))))
 subst hv
 have i4:FoI ⟨H.length,H.length+1,p,H.length+2,H.length+3, .none, .none,[],0⟩ [(1,[])] [] [] H3 H4:=i4
 have xl:((List.range k).map natV).length=k:=by rw [List.length_map,List.length_range]
 have hm:k * sz 2≤2 * 19:=Nat.mul_le_mul_right _ k2
 refine ⟨rfl,Int.ofNat_le.mpr (Nat.le_trans k2 (Nat.le_of_ble_eq_true rfl)),Int.le_trans (by decide) (Int.natCast_nonneg k),?_⟩
 refine kids_loop (C:=⟨H.length,H.length+1,p,H.length+2,H.length+3, .none, .none,[],0⟩) (n:=n+7) (e:=2) (node_ok (n:=n)) D (.inl rfl) (.inl rfl) .nil rfl (fun x Q H h=>⟨Nat.zero_le _,h⟩) (xs:=(List.range k).map natV) i4.g i4.po i4.r i4.gr (by rw [xl];exact Nat.le_trans (Nat.add_le_add_left hm 1) (by decide)) (by rw [xl];exact Nat.le_trans (Nat.add_le_add_left hm 0) (by decide)) (by rw [xl];exact Nat.le_trans (Nat.add_le_add_left hm 0) (by decide)) fun T1 ks rs G H5 kq _ g5 p5 r5 gr5 gl5 c5=>?_
 rw [xl] at kq gl5
 have kl:(ks.map rf).length≤sizeMost:=by rw [List.length_map,kq.kl];exact Nat.le_trans k2 (Nat.le_of_ble_eq_true rfl)
 have hi:T1.length≤39:=Nat.le_trans kq.hi (Nat.add_le_add_left hm 1)
 have i5:FoI ⟨H.length,H.length+1,p,H.length+2,H.length+3, .none, .none,[],0⟩ T1 (rs.map Rw.row) G H3 H5:=⟨g5,p5,r5,gr5,i4.ch.tr c5⟩
 have fin:∀ {T2 pl x H9},FmT T1 ks T2 pl x→FoI ⟨H.length,H.length+1,p,H.length+2,H.length+3, .none, .none,[],0⟩ T2 (rs.map Rw.row) G H3 H9→cl (n+7) false E 339 [shv H.length (H.length+1), .int 1, .int 0, .dct (acroD x)] (fun _=>fmC (KF (n+7) false E Q) (fun _=>Q .none) [some (.ref p),some (shv H.length (H.length+1)),some (rf 1),some (.ref (H.length+2)),some (.ref (H.length+3)),some (.dct (formD ks)),none,none,none]) H9:=fun {T2 pl x H9} hT i=>by
  have fo:=form_ok g5.num g5.ok k1 k2 kq hT
  have l2:T2.length≤40:=by
   cases hT with
   | here=>exact Nat.le_succ_of_le hi
   | far=>rw [List.length_append];exact Nat.succ_le_succ hi
  have n2:H.length+1≠H.length:=Nat.succ_ne_self _
  have n3:H.length+2≠H.length:=by omega
  have n4:H.length+3≠H.length:=by omega
  have n5:H.length+2≠H.length+1:=by omega
  have n6:H.length+3≠H.length+1:=by omega
  have n7:H.length+3≠H.length+2:=by omega
  refine in339 ⟨_,i.g.t,Nat.lt_of_le_of_lt (Nat.le_of_eq (List.length_map _)) (Nat.lt_of_le_of_lt l2 (Nat.lt_of_lt_of_le (by decide:40 < 100000) (Nat.le_refl _))),?_⟩
  rw [dput_tabE (noDup_num i.g.num)]
  have tr1:=at_ne (c':=cD (tabE (tput T2 1 (acroD x)))) i.g.tr n2.symm
  have r1:=at_ne (c':=cD [(sK "Root",rf 1)]) (at_ne (c':=cD (tabE (tput T2 1 (acroD x)))) i.r n3.symm) n5.symm
  have gr1:=at_ne (c':=cD [(sK "Root",rf 1)]) (at_ne (c':=cD (tabE (tput T2 1 (acroD x)))) i.gr n4.symm) n6.symm
  have ch:Chg [p] H H9:=cc.sub i.ch fun j hj=>by
   rcases List.mem_cons.mp hj with rfl | hj
   ·exact .inr (Nat.le_refl _)
   ·rcases List.mem_cons.mp hj with rfl | hj
    ·exact .inl (.head _)
    ·rcases List.mem_cons.mp hj with rfl | hj
     ·exact .inr (Nat.le_add_right _ 2)
     ·rw [List.mem_singleton.mp hj];exact .inr (Nat.le_add_right _ 3)
  refine ⟨_,tr1,Nat.lt_of_lt_of_le (by decide:0 < 100000) (Nat.le_refl _),_,_,r1,trivial,_,_,at_ne gr1 n7.symm,trivial,q _ _ _ rs pl _ ks 2 _ G _ ⟨?_,?_⟩ fo ?_ n2.symm (Nat.ne_of_lt hpl) (Nat.ne_of_lt (Nat.lt_succ_of_lt hpl)) ((((ch.st (.inr (Nat.le_refl _))).st (.inr (Nat.le_succ _))).st (.inr (Nat.le_add_right _ 2))).st (.inr (Nat.le_add_right _ 3)))⟩
  ·exact at_ne (at_ne (at_ne (at_set i.g.t) n2) n3) n4
  ·exact at_ne (at_ne (at_set tr1) n5) n6
  ·exact i.po.imp fun _ h=>⟨at_ne (at_ne (at_ne (at_ne h.1 (Nat.ne_of_gt hpl)) (Nat.ne_of_gt (Nat.lt_succ_of_lt hpl))) (Nat.ne_of_gt (Nat.lt_of_lt_of_le hpl (Nat.le_add_right _ 2)))) (Nat.ne_of_gt (Nat.lt_of_lt_of_le hpl (Nat.le_add_right _ 3))),h.2⟩
 refine ⟨kl,show 1≤sizeMost from Nat.le_of_ble_eq_true rfl,?_⟩
 show fmB (KF (n+7) false E Q) (fun _=>Q .none) [some (.ref p),some (shv H.length (H.length+1)),some (rf 1),some (.ref (H.length+2)),some (.ref (H.length+3)),some (.dct (formD ks)),none,none,none] H5
 refine exC (mtdC rfl (evC ((rFd0 rfl).run (V:=vAll) trivial fun H6 x6=>evC (rCst.run (V:=vAll) trivial fun H7 x7=>evC (dct1C (tIfC (dEq (I:=fmInv ⟨H.length,H.length+1,p,H.length+2,H.length+3, .none, .none,[],0⟩ T1 (rs.map Rw.row) G H3 D) (dTake rfl rfl rfl (m:=2) (by decide) (by decide)) _ _ (Inv.ex _ i5 (x6.tr x7)) fun b H8 i8 _=>?_)))))))
 have i8:FoI ⟨H.length,H.length+1,p,H.length+2,H.length+3, .none, .none,[],0⟩ T1 (rs.map Rw.row) G H3 H8:=i8
 cases b with
 | false=>exact ⟨show 1≤sizeMost from Nat.le_of_ble_eq_true rfl,fin .here i8⟩
 | true=>exact sp_add i8.g.t i8.g.num (Nat.lt_of_le_of_lt hi (by decide)) ⟨show 1≤sizeMost from Nat.le_of_ble_eq_true rfl,fin .far ⟨i8.g.app D.t1 (form_dok (by rw [kq.kl];exact k2)),i8.po.imp fun _ h=>⟨at_ne h.1 D.t2,h.2⟩,at_ne i8.r D.t3,at_ne i8.gr D.t4,i8.ch.st (.inl (.head _))⟩⟩))
end
end Mine
end
section
namespace Mine
open PySem
noncomputable def lawZ:Cs:=(sq (ifS (tNot (tv (lv 12))) (sq (retS (cst (.bool false))) skp) skp) (sq (forS (.many [7,11]) (iover (lv 10)) (sq (exS (kall 771 [(lv 13),(lv 7),(lv 2),(lv 11)])) skp)) (sq (exS (kall 793 [(lv 2),(lv 13)])) (sq (retS (kall 798 [(lv 2),(lv 13)])) skp))))
noncomputable def lawT:Cs:=(sq (tryS (uIf (tCmp .eq (blt false .len [(lv 5)]) (cst (.int 1))) (uE (kall 691 [(lv 2),(itm (blt false .list [(lv 5)]) (cst (.int 0))),(itm (lv 5) (itm (blt false .list [(lv 5)]) (cst (.int 0))))])) (uE (kall 684 [(lv 2),(frD (lv 5))]))) (ofT (tAnd (tv (ofT (tNot (tv (lv 12))))) (tv (ofT (tCmp .eq (mtd 375 372 (lv 2) []) (lv 9))))))) lawZ)
noncomputable def lawLet:Cd MV:=(ofT (tCmp .eq (blt false .len [(lcp false (icomp [none,none,none,none,some 2] (.many [1,2]) (iover (lv 10)) (tAnd (tNot (tv (kall 781 [(lv 4),(lv 1),(lv 2)]))) yes) (ione (lv 1))))]) (cst (.int 0))))
noncomputable def lawL:Cs:=(sq (asS (.one 12) lawLet) (sq (asS (.one 13) (kall 786 [(lv 2)])) lawT))
noncomputable def lawWant:Cd MV:=(lcp false (icomp [none,none,none,some 5,some 3] (.one 1) (lim (iover (frD (lv 5)))) yes (igen (.one 2) (lim (iover (lv 4))) (tAnd (tCmp .eq (itm (lv 2) (cst (.int 0))) (lv 1)) yes) (ione (tupC [(lv 2),(itm (lv 3) (itm (lv 2) (cst (.int 0))))])))))
noncomputable def lawB:Cs:=(sq (asS (.one 9) (mtd 375 372 (lv 2) [])) (sq (asS (.one 10) lawWant) lawL))
noncomputable def lawD:Cs:=(sq (asS (.one 8) (itm (lcp false (icomp [none,none] (.one 1) (iover (lv 3)) yes (ione (itm (lv 1) (cst (.int 0)))))) (bin .mod (kall 698 [(lv 1),(cst (.int 9))]) (blt false .len [(lv 3)])))) (sq (ixS (lv 5) (lv 8) (itm (tupC [(cst (.str "abc")),(cst (.str "x")),(cst (.str "Off")),(cst (.str "abcd")),(cst (.str "y")),(cst (.str "")),(lstC false [(cst (.str "abc")),(cst (.str "a"))]),(lstC false [(cst (.str "abc"))]),(lstC false []),(lstC false [(cst (.str "a")),(cst (.str "a"))]),(cst (.int 7))]) (kall 698 [(lv 1),(cst (.int 11))]))) skp))
noncomputable def lawF:Cs:=(sq (forS (.one 6) (iran (bin .add (cst (.int 1)) (kall 698 [(lv 1),(cst (.int 2))]))) lawD) lawB)
noncomputable def lawE:Cs:=(sq (asS (.one 5) (dctC true [])) lawF)
noncomputable def wantV (p:Rw × Val):MV:= .tup [p.1.row,p.2.mv]
structure LwC where
 s:MV
 p:Nat
 t:Nat
 tr:Nat
 dc:Nat
 rs:List Rw
 G:MV
noncomputable def LwC.loc (C:LwC)(a b c d e f g h:Option MV):Loc:=[some C.s,some (.ref C.p),some (shv C.t C.tr),some (.lst (C.rs.map Rw.row)),some C.G,some (.ref C.dc),a,b,c,d,e,f,g,h,none,none,none,none,none,none,none,none,none,none,none,none]
inductive LaI (hs:Hs)(t tr:Nat)(T0 Tf:Tab)(P:List (Rw × Val))(S:List Nat)(H0:Hp)(L:Option MV→Option MV→Loc)(xs:List (Rw × Val))(l:Loc)(H:Hp):Prop
 | mk (T:Tab)(u w:Option MV):l=L u w→HwI hs t tr T Tf H→layAll T xs=layAll T0 P→xs.Pairwise (fun p q=>p.1.num≠q.1.num)→(∀p∈xs,RowOk T p.1∧RowOk Tf p.1∧p.2∈valAll∧letB p.1 p.2=true∧NoI T p.1.num)→LaI hs t tr T0 Tf P S H0 L xs l H
section
variable {C:LwC}{n:Nat}{T:Tab}{rs:List Rw}{dt:List (Str × Val)}{H:Hp}{hs:Hs}{pl:Option Int}{d:Dict}{ks:List Int}{lo hi:Int}{E:Hp→Prop}{Q:Po MV}{M:Loc→Hp→Prop}{a b c e f g h:Option MV}
theorem need_keeps {form:Dict}(hP:FormP T pl d form):Keeps T (needT T pl d form):=by
 cases hP with
 | here h1 h2=>exact .put h1 (put_other (show sK "AcroForm"≠sK "AP" by decide))
 | far h1 h2 h3=>exact .put h3 (put_other (show sK "NeedAppearances"≠sK "AP" by decide))
theorem wants_pw (h:(rs.map (·.num)).Nodup)(hd:(dt.map (·.1)).Nodup):(wants rs dt).Pairwise fun p q=>p.1.num≠q.1.num:=by
 induction dt with
 | nil=>exact List.Pairwise.nil
 | cons p dt ih=>
  obtain ⟨hd1,hd2⟩:=List.nodup_cons.mp hd
  show (wants1 rs p ++ wants rs dt).Pairwise _
  refine List.pairwise_append.mpr ⟨?_,ih hd2,fun x hx y hy w=>?_⟩
  ·have:(rs.filter fun r=>strB r.name p.1).Pairwise fun a b=>a.num≠b.num:=List.Pairwise.filter _ (List.pairwise_map.mp h)
   exact List.Pairwise.map _ (fun a b h=>h) this
  ·obtain ⟨r,hr,rfl⟩:=List.mem_map.mp hx
   obtain ⟨h1,h2⟩:=List.mem_filter.mp hr
   obtain ⟨h3,q,hq,h4,_⟩:=wants_mem hy
   have e:r=y.1:=nodup_inj (f:=(·.num)) h h1 h3 w
   exact hd1 (List.mem_map.mpr ⟨q,hq,h4.symm.trans (e▸of_decide_eq_true h2)⟩)
theorem law_z (hF:FormOk T C.rs pl d ks lo hi)(hD:DataOk C.rs dt)(hall:allLet (wants C.rs dt) =true)(i:HwI hs C.t C.tr T (needT (layAll T (wants C.rs dt)) pl d (formD ks)) H)(q:∀H',Q (.bool true) H'):lawZ (KF (n+10) false E Q) M (C.loc a b c e (some (.lst ((wants C.rs dt).map wantV))) f (some (.bool true)) (some (.dct (headsE hs)))) H:=by
 have hrow:∀p∈wants C.rs dt,RowOk T p.1∧p.2∈valAll∧letB p.1 p.2=true∧NoI T p.1.num:=fun p hp=>by
  obtain ⟨h1,q,hq,h2,h3⟩:=wants_mem hp
  exact ⟨hF.fr.ok _ h1,h3▸(hD.ok q hq).1,List.all_eq_true.mp hall p hp,hF.noI _ h1⟩
 have la:=layAll_ok (ks:=fun k=>∃r∈C.rs,r.has k) (P:=wants C.rs dt) hF.tb fun p hp=>⟨(hrow p hp).1,(hrow p hp).2.1,fun k h=>⟨_,(wants_mem hp).1,h⟩⟩
 have off:∀k,(∀r∈C.rs,¬ r.has k)→tget (layAll T (wants C.rs dt)) k=tget T k:=fun k h=>la.off k fun ⟨r,hr,w⟩=>h r hr w
 have o1:=off 1 fun r hr=>(hF.aw r hr).1
 have hP3:FormP (layAll T (wants C.rs dt)) pl d (formD ks):=by
  have aw:=hF.aw
  cases hF.fp with
  | here h1 h2=>exact .here (o1.trans h1) h2
  | far h1 h2 h3=>exact .far (o1.trans h1) h2 ((off _ fun r hr=>(aw r hr).2 _ rfl).trans h3)
 have kf:=la.keep.tr (need_keeps hP3)
 have wl:((wants C.rs dt).map wantV).length≤sizeMost:=by
  rw [List.length_map]
  exact Nat.le_trans (wants_len hF.fr.rl) (Nat.le_trans (Nat.mul_le_mul_left 100 hD.le) (Nat.le_of_ble_eq_true rfl))
 refine sF0 (V:=vAll) trivial (rNot (c:=true) (rTv rfl)) fun H1 x1=>?_
 refine sFor2 (u:=wantV) (f:=fun p=>p.1.row) (g:=fun p=>p.2.mv) (fun _=>rfl) rfl (LaI hs C.t C.tr T (needT (layAll T (wants C.rs dt)) pl d (formD ks)) (wants C.rs dt) [] H fun u w=>C.loc a u c e (some (.lst ((wants C.rs dt).map wantV))) w (some (.bool true)) (some (.dct (headsE hs)))) (zs:=wants C.rs dt) (R:=Ext H1) (fun Q q=>(rOver (V:=vAll) (rLv rfl) wl).run trivial q) (fun H2 x2=> .mk T _ _ rfl (i.ex (x1.tr x2)) rfl (wants_pw hF.nd hD.nd) fun p hp=>⟨(hrow p hp).1,(hrow p hp).1.keep kf,(hrow p hp).2⟩) (fun {x xs l H'} j B N' hN=>?_) fun l H' j=>?_
 ·obtain ⟨T',u,w,rfl,i',e',pw,hx⟩:=j
  obtain ⟨h1,h2,h3,h4,h5⟩:=hx x (.head _)
  obtain ⟨pw1,pw2⟩:=List.pairwise_cons.mp pw
  have lr:=layR_ok i'.tb h1 h3
  exact sp_llaid (n:=n+5) i' h1 h2 h3 h4 h5 fun H2 i2 c2=>hN _ _ (.mk _ _ _ rfl i2 e' pw2 fun p hp=>by
   obtain ⟨b1,b2,b3,b4,b5⟩:=hx p (.tail _ hp)
   exact ⟨b1.keep lr.keep,b2,b3,b4,layR_noI (pw1 p hp) b5⟩)
 ·obtain ⟨T',u,w,rfl,i',e',pw,hx⟩:=j
  have e':T'=layAll T (wants C.rs dt):=e'
  subst e'
  exact sp_lneeded (n:=n+9) i' hP3 hF.pk hF.fd fun H2 i2 c2=>sp_lnow (n:=n+1) i2 q
end
end Mine
end
section
namespace Mine
open PySem
structure Told (T:Tab)(w:List MV):Prop where
 rd:∀(t tr n:Nat) (hd:Bool) E (X:MV),DctV (sees t tr T) X (tabE T)→Rd (sees t tr T) (cl (n+8) hd E 372 [sh2 X (.ref tr)]) (.tup w)
 pl:plainT 50 (.tup w)
section
variable {V:View}{K:Kx}{l:Loc}{N:Loc→Hp→Prop}{H:Hp}{t:Cd Bool}{b a:Cd Unit}{e:Cd MV}{es:List (Cd MV)}{Q:Po Unit}{vs:List MV}{f:Addr}
theorem uIfT (p:V.p H)(h:Rd V (t K l) true)(q:∀H2,Ext H H2→a K l Q H2):uIf t a b K l Q H:=h.run p q
theorem uIfF (p:V.p H)(h:Rd V (t K l) false)(q:∀H2,Ext H H2→b K l Q H2):uIf t a b K l Q H:=h.run p q
theorem uKall (p:V.p H)(h:Rd V (evs es K l) vs)(q:∀H2,Ext H H2→K.cl K.hd K.E f vs (fun _=>Q ()) H2):uE (kall f es) K l Q H:=h.run p q
theorem rItmG {i a:Nat}{es:Dict}{k:Str}{v:MV}{m:Md}(e1:lat l i=some (.ref a))(hc:∀H,V.p H→H[a]?=some ⟨m, .dict es⟩)(h2:Rd V (e K l) (.str k))(h:dlook es (.inr k) =some v):Rd V (itm (lv i) e K l) v:=fun Q H q=>by
 show lv i K l (fun x=>e K l fun y h=>itemM x y h fun x=>Q x h) H
 exact lvE K e1 (h2 _ H ⟨q.1,fun H2 x p=>⟨_,hc _ p,_,h,q.ex x⟩⟩)
theorem sTry {r:Cd MV}{M:Loc→Hp→Prop}{s:Cs}(h:b ⟨K.cl,fun h=>r ⟨K.cl,noE,true,K.ret,K.brk⟩ l K.ret h,K.hd,K.ret,K.brk⟩ l (fun _=>s K M l) H):sq (tryS b r) s K M l H:=h
end
section
variable {C:LwC}{n:Nat}{T:Tab}{dt:List (Str × Val)}{H:Hp}{hs:Hs}{pl:Option Int}{d:Dict}{ks:List Int}{lo hi:Int}{E:Hp→Prop}{Q:Po MV}{M:Loc→Hp→Prop}{a b c e f g h:Option MV}{w:List MV}
theorem law_t (h0:C.t≠C.tr)(dct:C.dc≠C.t)(dcr:C.dc≠C.tr)(s:(sees C.t C.tr T).p H)(hF:FormOk T C.rs pl d ks lo hi)(hD:DataOk C.rs dt)(hd:H[C.dc]?=some ⟨.frz, .dict (dataD dt)⟩)(hw:Told T w)(hh:HAt hs T H)(nt:∀p∈hs,p.2≠C.t∧p.2≠C.tr)(q:∀H',Q (.bool true) H'):lawT (KF (n+12) false E Q) M (C.loc a b c (some (.tup w)) (some (.lst ((wants C.rs dt).map wantV))) f (some (.bool (allLet (wants C.rs dt)))) (some (.dct (headsE hs)))) H:=by
 have dl:(dataD dt).length=dt.length:=List.length_map _
 have dl3:(dataD dt).length≤sizeMost:=by rw [dl];exact Nat.le_trans hD.le (Nat.le_of_ble_eq_true rfl)
 have ok:allLet (wants C.rs dt) =true→∀H2,Ext H H2→∀H',Chg [C.t] H2 H'→(sees C.t C.tr (needT (layAll T (wants C.rs dt)) pl d (formD ks))).p H'→lawZ (KF (n+12) false E Q) M (C.loc a b c (some (.tup w)) (some (.lst ((wants C.rs dt).map wantV))) f (some (.bool (allLet (wants C.rs dt)))) (some (.dct (headsE hs)))) H':=fun hb H2 x2 H' ch s'=>by
  rw [hb]
  exact law_z (n:=n+2) hF hD hb ⟨s',(hh.ex x2).chg ch fun p hp=>not1 (nt p hp).1,hF.tb,nt⟩ q
 have bad:allLet (wants C.rs dt) =false→∀H2,Ext H H2→ofT (tAnd (tv (ofT (tNot (tv (lv 12))))) (tv (ofT (tCmp .eq (mtd 375 372 (lv 2) []) (lv 9))))) ⟨cl (n+12),noE,true,Q,fun _ _=>False⟩ (C.loc a b c (some (.tup w)) (some (.lst ((wants C.rs dt).map wantV))) f (some (.bool (allLet (wants C.rs dt)))) (some (.dct (headsE hs)))) Q H2:=fun hb H2 x2=>by
  rw [hb]
  exact (rOf (V:=sees C.t C.tr T) (rAnd (c:=true) (d:=true) (rTo (rNot (c:=false) (rTv rfl))) fun _=>rTo (rCmp (op:= .eq) (v:= .tup w) (w:= .tup w) (fun Q H q=>hw.rd C.t C.tr (n+4) true noE (.ref C.t) (.ref fun H h=>h.1) _ H q) (rLv rfl) fun _ _ q=>⟨rfl,hw.pl,q⟩))).run ((sees C.t C.tr T).mono x2 s) fun H3 x3=>q H3
 have len:∀ {K:Kx}{l:Loc}{B:Bool},lat l 5=some (.ref C.dc)→((dt.length:Int) == 1) =B→Rd (cellV C.dc ⟨.frz, .dict (dataD dt)⟩) (tCmp .eq (blt false .len [lv 5]) (cst (.int 1)) K l) B:=fun {K l B} e hB=>by
  subst hB
  exact rCmp (op:= .eq) (v:= .int dt.length) (fun Q H q=>by
   show lv 5 K l _ H
   exact lvE K e ⟨_,q.1,dl3,dl.symm▸q.now⟩) rCst fun _ _ q=>q
 refine sTry ?_
 have one:(∃x,dt= [x])∨((dt.length:Int) == 1) =false:=by
  cases dt with
  | nil=>exact .inr rfl
  | cons x r=>
   cases r with
   | nil=>exact .inl ⟨x,rfl⟩
   | cons y r=>exact .inr (beq_eq_false_iff_ne.mpr (show ((r.length+1+1:Nat):Int)≠1 by omega))
 rcases one with ⟨x,rfl⟩ | h1
 ·have a1:∀ {K:Kx}{l:Loc},lat l 5=some (.ref C.dc)→K.hd=false→Rd (cellV C.dc ⟨.frz, .dict (dataD [x])⟩) (itm (blt false .list [lv 5]) (cst (.int 0)) K l) (.str x.1):=fun {K l} e hh Q H q=>by
   show lv 5 K l _ H
   exact lvE K e ⟨hh,_,q.1,show 1≤sizeMost from Nat.le_of_ble_eq_true rfl,0,rfl,by decide,_,rfl,q.now⟩
  refine uIfT (V:=cellV C.dc ⟨.frz, .dict (dataD [x])⟩) hd (len rfl rfl) fun H2 x2=>uKall (V:=cellV C.dc ⟨.frz, .dict (dataD [x])⟩) (x2.get hd) (rCons (rLv rfl) (rCons (a1 rfl rfl) (rCons (rItmG rfl (fun H h=>h) (a1 rfl rfl) (data_get hD.nd (.head _))) rNil))) fun H3 x3=>?_
  exact sp_putvalue h0 ((sees C.t C.tr T).mono (x2.tr x3) s) hF.tb hF.fr hF.fp hF.aw hD hF.fd (fun hb H' ch s'=>ok hb _ (x2.tr x3) H' ch s') fun hb H' x4=>bad hb H' ((x2.tr x3).tr x4)
 ·refine uIfF (V:=cellV C.dc ⟨.frz, .dict (dataD dt)⟩) hd (len rfl h1) fun H2 x2=>⟨_,_,x2.get hd,trivial,?_⟩
  rw [set_self (x2.get hd)]
  exact sp_fill (n:=n+1) h0 ((sees C.t C.tr T).mono x2 s) hF.tb hF.fr hF.fp hF.aw hD hF.fd (fun hb H' ch s'=>ok hb _ x2 H' ch s') fun hb H' x4=>bad hb H' (x2.tr x4)
end
end Mine
end
section
namespace Mine
open PySem
theorem none_left {α:Type}{f:α→Bool}{l:List α}:(((l.filter fun x=> !f x).length:Int) == 0) =l.all f:=by
 cases h:l.all f with
 | true=>
  have:l.filter (fun x=> !f x) = []:=List.filter_eq_nil_iff.mpr fun x hx w=>by
   rw [List.all_eq_true.mp h x hx] at w;cases w
  rw [this];rfl
 | false=>
  obtain ⟨x,hx,w⟩:=List.all_eq_false.mp h
  refine beq_eq_false_iff_ne.mpr fun e=>?_
  have:=List.filter_eq_nil_iff.mp (List.length_eq_zero_iff.mp (Int.ofNat.inj e)) x hx
  exact this (by cases hf:f x;rfl;exact absurd hf w)
section
variable {V:View}{K:Kx}{l:Loc}{it:Cd (List MV)}{c:Cd Bool}{xs:List MV}{t:Tg}
theorem rLim (h:Rd V (it K l) xs)(hl:xs.length≤4000):Rd V (lim it K l) xs:=fun Q H q=>h _ H ⟨q.1,fun H2 x p=>⟨hl,q.ex x⟩⟩
theorem rGen {τ α:Type}{inner:Cd (List τ)}{u:α→MV}{zs:List α}{g:α→List τ}(h1:Rd V (it K l) (zs.map u))(h:∀x∈zs,Rd V (turn t c inner K l (u x)) (g x)):Rd V (igen t it c inner K l) (zs.flatMap g):=fun Q H q=>h1 _ H ((each_map h).ev q)
end
section
variable {C:LwC}{n:Nat}{T:Tab}{dt:List (Str × Val)}{H:Hp}{hs:Hs}{pl:Option Int}{d:Dict}{ks:List Int}{lo hi:Int}{E:Hp→Prop}{Q:Po MV}{M:Loc→Hp→Prop}{a b c e f g h:Option MV}{w:List MV}{P:List (Rw × Val)}
theorem let_rd (hP:∀p∈P,RowOk T p.1∧p.2∈valAll)(hl:P.length≤400):Rd (sees C.t C.tr T) (lawLet (KF (n+4) false E Q) (C.loc a b c e (some (.lst (P.map wantV))) f g h)) (.bool (allLet P)):=by
 have lp:(P.map wantV).length≤sizeMost:=by rw [List.length_map];exact Nat.le_trans hl (Nat.le_of_ble_eq_true rfl)
 have lf:((P.filter fun p=> !letB p.1 p.2).map fun p=>p.1.row).length≤sizeMost:=by rw [List.length_map];exact Nat.le_trans (List.length_filter_le ..) (Nat.le_trans hl (Nat.le_of_ble_eq_true rfl))
 have ls:Rd (sees C.t C.tr T) (lcp false (icomp [none,none,none,none,some 2] (.many [1,2]) (iover (lv 10)) (tAnd (tNot (tv (kall 781 [(lv 4),(lv 1),(lv 2)]))) yes) (ione (lv 1))) (KF (n+4) false E Q) (C.loc a b c e (some (.lst (P.map wantV))) f g h)) (.lst ((P.filter fun p=> !letB p.1 p.2).map fun p=>p.1.row)):=rLcp (flat_if (p:=fun p:Rw × Val=> !letB p.1 p.2)▸rComp (u:=wantV) (rOver (rLv rfl) lp) fun p hp Q H q=>⟨rfl,(sp_islet (hP p hp).1 (hP p hp).2).run q.1 fun H2 x2=>by
  cases hb:letB p.1 p.2 with
  | true=>rw [hb] at q;exact q.ex x2
  | false=>rw [hb] at q;exact q.ex x2⟩) lf
 refine rOf (rCmp (op:= .eq) (v:= .int ((P.filter fun p=> !letB p.1 p.2).map fun p=>p.1.row).length) (fun Q H q=>ls _ H ⟨q.1,fun H2 x p=>⟨lf,q.ex x⟩⟩) rCst fun _ Q q=>?_)
 show Q (_ == _)
 rw [List.length_map,none_left (f:=fun p:Rw × Val=>letB p.1 p.2)]
 exact q
theorem law_l (h0:C.t≠C.tr)(dct:C.dc≠C.t)(dcr:C.dc≠C.tr)(s:(sees C.t C.tr T).p H)(hF:FormOk T C.rs pl d ks lo hi)(hD:DataOk C.rs dt)(hd:H[C.dc]?=some ⟨.frz, .dict (dataD dt)⟩)(hw:Told T w)(q:∀H',Q (.bool true) H'):lawL (KF (n+12) false E Q) M (C.loc a b c (some (.tup w)) (some (.lst ((wants C.rs dt).map wantV))) f none none) H:=by
 refine sA s (let_rd (n:=n+8) (fun p hp=>?_) (Nat.le_trans (wants_len hF.fr.rl) (Nat.le_trans (Nat.mul_le_mul_left 100 hD.le) (by decide)))) fun H1 x1=>?_
 ·obtain ⟨h1,q,hq,h2,h3⟩:=wants_mem hp
  exact ⟨hF.fr.ok _ h1,h3▸(hD.ok q hq).1⟩
 ·have s1:=(sees C.t C.tr T).mono x1 s
  refine sp_lheads (n:=n+10) s1 hF.tb fun hs H2 hh x2 ge=>?_
  exact law_t h0 dct dcr ((sees C.t C.tr T).mono x2 s1) hF hD ((x1.tr x2).get hd) hw hh (fun p hp=>⟨Nat.ne_of_gt (Nat.lt_of_lt_of_le (at_lt s1.1) (ge p hp)),Nat.ne_of_gt (Nat.lt_of_lt_of_le (at_lt s1.2) (ge p hp))⟩) q
theorem law_b (h0:C.t≠C.tr)(dct:C.dc≠C.t)(dcr:C.dc≠C.tr)(s:(sees C.t C.tr T).p H)(hF:FormOk T C.rs pl d ks lo hi)(hD:DataOk C.rs dt)(hd:H[C.dc]?=some (cD (dataD dt)))(q:∀H',Q (.bool true) H'):lawB (KF (n+12) false E Q) M (C.loc a b c none none f none none) H:=by
 obtain ⟨w,h1,h2⟩:=told_shelf hF.tb.num hF.tb.len hF.tb.plain
 refine sA s (v:= .tup w) (fun Q H q=>h1 C.t C.tr (n+4) false E (.ref C.t) (.ref fun H h=>h.1) _ H q) fun H1 x1=>?_
 have dl:(dataD dt).length≤3:=by unfold dataD;rw [List.length_map];exact hD.le
 have rl:(C.rs.map Rw.row).length≤100:=by rw [List.length_map];exact hF.fr.rl
 have wl:((wants C.rs dt).map wantV).length≤sizeMost:=by
  rw [List.length_map]
  exact Nat.le_trans (wants_len hF.fr.rl) (Nat.le_trans (Nat.mul_le_mul_left 100 hD.le) (Nat.le_of_ble_eq_true rfl))
 refine sAC (lcpC (icompC ⟨_,_,x1.get hd,trivial,rfl,Nat.le_trans dl (Nat.le_of_ble_eq_true rfl),?_⟩))
 rw [data_keys]
 refine ⟨by rw [List.length_map];exact Nat.le_trans hD.le (by decide),?_⟩
 have s2:(sees C.t C.tr T).p (H1.set C.dc ⟨.frz, .dict (dataD dt)⟩):=⟨at_ne (x1.get s.1) dct,at_ne (x1.get s.2) dcr⟩
 refine (each_map (V:=cellV C.dc ⟨.frz, .dict (dataD dt)⟩) (u:=nameV) (g:=fun p=>(wants1 C.rs p).map wantV) fun x hx=>?_).run (at_set (x1.get hd)) fun H2 x2=>?_
 ·have e:(wants1 C.rs x).map wantV=C.rs.flatMap fun r=>bif strB r.name x.1 then [wantV (r,x.2)] else []:=by
   rw [flat_if (p:=fun r:Rw=>strB r.name x.1) (u:=fun r=>wantV (r,x.2))]
   unfold wants1
   rw [List.map_map];rfl
  show Rd _ _ ((wants1 C.rs x).map wantV)
  rw [e]
  refine rTurn rfl rYes (rGen (u:=Rw.row) (rLim (rOver (rLv rfl) (Nat.le_trans rl (Nat.le_of_ble_eq_true rfl))) (Nat.le_trans rl (by decide))) fun r hr Q H q=>?_)
  refine ⟨0,rfl,by decide,_,rfl,?_⟩
  cases hb:strB r.name x.1 with
  | false=>rw [hb] at q;exact bF hb q.now
  | true=>
   rw [hb] at q
   exact bT hb ⟨0,rfl,by decide,_,rfl,_,q.1,_,(of_decide_eq_true hb▸data_get hD.nd hx:dlook (dataD dt) (.inr r.name) =_),q.now⟩
 ·have ew:(dt.flatMap fun p=>(wants1 C.rs p).map wantV) = (wants C.rs dt).map wantV:=by unfold wants;rw [List.map_flatMap]
  rw [ew]
  exact ⟨wl,law_l h0 dct dcr ((sees C.t C.tr T).mono x2 s2) hF hD (x2.get (at_set (x1.get hd))) ⟨h1,h2⟩ q⟩
end
end Mine
end
section
namespace Mine
open PySem
theorem data_put {k:Str}{v:Val}{dt:List (Str × Val)}(hn:(dt.map (·.1)).Nodup):∃dt',dput (dataD dt) (.inr k) v.mv=dataD dt'∧(dt'.map (·.1)).Nodup∧(∀e∈dt',e∈dt∨e= (k,v))∧dt'.length≤dt.length+1∧dt'≠ []:=by
 induction dt with
 | nil=>exact ⟨[(k,v)],rfl,List.nodup_cons.mpr ⟨List.not_mem_nil,List.nodup_nil⟩,fun e he=> .inr (List.mem_singleton.mp he),Nat.le_refl _,fun h=>by cases h⟩
 | cons p dt ih=>
  obtain ⟨h1,h2⟩:=List.nodup_cons.mp hn
  have nd:NoDupK (dataE p::dataD dt):=by
   have e:(dataD (p::dt)).map (·.1) = ((p::dt).map (·.1)).map Sum.inr:=by unfold dataD;rw [List.map_map,List.map_map];rfl
   show ((dataD (p::dt)).map (·.1)).Nodup
   rw [e]
   exact List.Pairwise.map _ (fun a b h w=>h (Sum.inr.inj w)) hn
  show ∃dt',dput (dataE p::dataD dt) (.inr k) v.mv=dataD dt'∧_
  rw [dput_cons nd]
  by_cases hk:p.1=k
  ·subst hk
   rw [if_pos (show (dataE p).1= .inr p.1 from rfl)]
   exact ⟨(p.1,v) ::dt,rfl,hn,fun e he=>(List.mem_cons.mp he).elim .inr fun h=> .inl (.tail _ h),Nat.le_succ _,fun h=>by cases h⟩
  ·rw [if_neg (show ¬ (dataE p).1= .inr k from fun w=>hk (Sum.inr.inj w))]
   obtain ⟨dt',e1,e2,e3,e4,e5⟩:=ih h2
   refine ⟨p::dt',by rw [e1];rfl,List.nodup_cons.mpr ⟨fun hm=>?_,e2⟩,fun e he=>?_,Nat.succ_le_succ e4,fun h=>by cases h⟩
   ·obtain ⟨e,he,w⟩:=List.mem_map.mp hm
    rcases e3 e he with h | rfl
    ·exact h1 (List.mem_map.mpr ⟨e,h,w⟩)
    ·exact hk w.symm
   ·rcases List.mem_cons.mp he with rfl | he
    ·exact .inl (.head _)
    ·exact (e3 e he).imp (.tail _) fun h=>h
noncomputable def ldInv (C:LwC)(T:Tab)(dt:List (Str × Val))(pd:C.p≠C.dc)(pt:C.p≠C.t)(pr:C.p≠C.tr):Inv C.p:=⟨fun H=>PoolAt C.p H∧H[C.dc]?=some (cD (dataD dt))∧(sees C.t C.tr T).p H,fun i=>i.1,fun i ch po=>⟨po,ch.get i.2.1 (not1 pd.symm),ch.get i.2.2.1 (not1 pt.symm),ch.get i.2.2.2 (not1 pr.symm)⟩⟩
section
variable {p:Nat}{I:Inv p}{K:Kx}{l:Loc}{M:Loc→Hp→Prop}{H:Hp}{b c:Cs}{e o:Cd MV}{m n:Nat}{xs:List MV}{it:Cd (List MV)}{t:Tg}{Q:Po MV}
theorem dMod (h1:Dw I (e K l) (below m))(h2:Rd vAll (o K l) (.int n))(hn:0 < n):Dw I (bin .mod e o K l) (below n):=fun Q H i q=>h1 _ H i fun v H2 i2 ⟨k,hv,_⟩=>h2.run trivial fun H3 x3=>by
 subst hv
 have hn':(0:Int) < n:=Int.ofNat_lt.mpr hn
 exact ⟨hn',q _ H3 (I.ex i2 x3) ⟨((k:Int).fmod n).toNat,congrArg MV.int (Int.toNat_of_nonneg (Int.fmod_nonneg_of_pos _ hn')).symm,(Int.toNat_lt (Int.fmod_nonneg_of_pos _ hn')).mpr (Int.fmod_lt_of_pos _ hn')⟩⟩
theorem dAtL (h1:Rd vAll (o K l) (.lst xs))(h2:Dw I (e K l) (below xs.length))(hl:xs.length < 100000):Dw I (itm o e K l) (· ∈xs):=fun Q H i q=>h1.run trivial fun H1 x1=>h2 _ H1 (I.ex i x1) fun v H2 i2 ⟨k,hv,hk⟩=>by
 subst hv
 exact ⟨k,rfl,Nat.lt_trans hk hl,_,List.getElem?_eq_getElem hk,q _ H2 i2 (List.getElem_mem hk)⟩
theorem forD (h:it K l (fun xs=>forL (fun v N l h=>put K.hd t v l fun l'=>b (K.loop (c K M)) N l' h) xs (c K M) l) H):sq (forS t it b) c K M l H:=h
theorem lcpT {e:Cd (List MV)}(h:e K l (fun ys=>mkList true ys Q) H):lcp true e K l Q H:=h
end
inductive LdI (C:LwC)(T:Tab)(xs:List MV)(l:Loc)(H:Hp):Prop
 | mk (dt:List (Str × Val))(u w:Option MV):l=C.loc u none w none none none none none→PoolAt C.p H→H[C.dc]?=some (cD (dataD dt))→(sees C.t C.tr T).p H→(dt.map (·.1)).Nodup→(∀p∈dt,p.2∈valAll∧∃r∈C.rs,r.name=p.1)→dt.length+xs.length≤2→(xs= []→dt≠ [])→LdI C T xs l H
section
variable {C:LwC}{n:Nat}{T:Tab}{H:Hp}{pl:Option Int}{d:Dict}{ks:List Int}{lo hi:Int}{E:Hp→Prop}{Q:Po MV}{M:Loc→Hp→Prop}
theorem names_rd {K:Kx}{a b c d e f g h:Option MV}(hl:C.rs.length≤100):Rd vAll ((lcp false (icomp [none,none] (.one 1) (iover (lv 3)) yes (ione (itm (lv 1) (cst (.int 0)))))) K (C.loc a b c d e f g h)) (.lst (C.rs.map fun r=> .str r.name)):=by
 have l1:∀ {f:Rw→MV},(C.rs.map f).length≤sizeMost:=fun {f}=>by rw [List.length_map];exact Nat.le_trans hl (Nat.le_of_ble_eq_true rfl)
 exact rLcp (flat_one (g:=fun r:Rw=>MV.str r.name)▸rComp (u:=Rw.row) (rOver (rLv rfl) l1) fun r _=>rTurn rfl rYes (rOne (rTup (k:=0) (rLv rfl) (by decide) rfl))) l1
theorem law_f (h0:C.t≠C.tr)(dct:C.dc≠C.t)(dcr:C.dc≠C.tr)(pd:C.p≠C.dc)(pt:C.p≠C.t)(pr:C.p≠C.tr)(s:(sees C.t C.tr T).p H)(po:PoolAt C.p H)(hF:FormOk T C.rs pl d ks lo hi)(hd:H[C.dc]?=some (cD []))(q:∀H',Q (.bool true) H'):lawF (KF (n+12) false E Q) M (C.loc none none none none none none none none) H:=by
 have rl:=hF.fr.rl
 have r0:0 < (C.rs.map Rw.row).length:=by rw [List.length_map];exact List.length_pos_iff.mpr hF.ne
 refine forD (iranC (dAdd1 (m:=2) (I:=ldInv C T [] pd pt pr) (dTake rfl rfl rfl (by decide) (by decide)) _ _ ⟨po,hd,s⟩ fun v H4 i4 ⟨k,hv,k1,k2⟩=>?_))
 subst hv
 refine ⟨rfl,Int.ofNat_le.mpr (Nat.le_trans k2 (Nat.le_of_ble_eq_true rfl)),Int.le_trans (by decide) (Int.natCast_nonneg k),?_⟩
 refine forL_inv (LdI C T) (fun x xs l H' i N' hN=>?_) (fun l H' i=>?_) (.mk [] none none rfl i4.1 i4.2.1 i4.2.2 List.nodup_nil nofun (by rw [List.length_map,List.length_range];exact (Nat.zero_add k).symm▸k2) fun h=>?_)
 ·obtain ⟨dt,u,w,rfl,po,hd,s,nd,ok,le,_⟩:=i
  refine wA (I:=ldInv C T dt pd pt pr) (P:=fun v=>v∈C.rs.map fun r=>MV.str r.name) ⟨po,hd,s⟩ (dAtL (names_rd rl) (by rw [List.length_map];exact dMod (dTake rfl rfl rfl (m:=9) (by decide) (by decide)) (fun Q H q=>⟨by rw [List.length_map];exact Nat.le_trans rl (Nat.le_of_ble_eq_true rfl),by rw [List.length_map];exact q.now⟩) (List.length_pos_iff.mpr hF.ne)) (by rw [List.length_map];exact Nat.lt_of_le_of_lt rl (by decide))) fun v H5 i5 hv=>?_
  obtain ⟨r,hr,rfl⟩:=List.mem_map.mp hv
  refine sIxC (dAt (m:=11) (I:=ldInv C T dt pd pt pr) (xs:=valAll.map Val.mv) (fun Q H q=>⟨show 2≤sizeMost from Nat.le_of_ble_eq_true rfl,show 1≤sizeMost from Nat.le_of_ble_eq_true rfl,Nat.zero_le _,show 2≤sizeMost from Nat.le_of_ble_eq_true rfl,q.now⟩) (dTake rfl rfl rfl (by decide) (by decide)) rfl (by decide) _ _ i5 fun v H6 i6 hv=>?_)
  obtain ⟨v,hv2,rfl⟩:=List.mem_map.mp hv
  obtain ⟨dt',e1,e2,e3,e4,e5⟩:=data_put (k:=r.name) (v:=v) nd
  rw [List.length_cons] at le
  have dl:(dataD dt).length < sizeMost:=by unfold dataD;rw [List.length_map];exact Nat.lt_of_le_of_lt (show dt.length≤2 by omega) (Nat.lt_of_lt_of_le (by decide:2 < 100000) (Nat.le_refl _))
  refine ⟨_,i6.2.1,dl,?_⟩
  rw [e1]
  exact hN _ _ (.mk dt' _ _ rfl (i6.1.imp fun _ h=>⟨at_ne h.1 pd.symm,h.2⟩) (at_set i6.2.1) ⟨at_ne i6.2.2.1 dct,at_ne i6.2.2.2 dcr⟩ e2 (fun p hp=>(e3 p hp).elim (ok p) fun h=>by rw [h];exact ⟨hv2,r,hr,rfl⟩) (by omega) fun _=>e5)
 ·obtain ⟨dt,u,w,rfl,po,hd,s,nd,ok,le,ne⟩:=i
  exact law_b h0 dct dcr s hF ⟨nd,ok,ne rfl,Nat.le_trans le (by decide)⟩ hd q
 ·have:=congrArg List.length h
  rw [List.length_map,List.length_range] at this
  have:k=0:=this
  omega
end
theorem law_true {l:List Int}{n:Nat}{E:Hp→Prop}{Q:Po MV}{M:Loc→Hp→Prop}{H:Hp}(hl:l.length≤1000)(q:∀H',Q (.bool true) H'):f803 (KF (n+12) false E Q) M [some (.lst (l.map .int)),none,none,none,none,none,none,none,none,none,none,none,none,none,none,none,none,none,none,none,none,none,none,none,none,none] H:=by
 have l24:(l.take 24).length≤24:=by rw [List.length_take];exact Nat.min_le_left ..
 have lm:(l.map MV.int).length≤sizeMost:=by rw [List.length_map];exact Nat.le_trans hl (Nat.le_of_ble_eq_true rfl)
 have l2:∀ {f:Int→MV},((l.take 24).map f).length≤sizeMost:=fun {f}=>by rw [List.length_map];exact Nat.le_trans l24 (Nat.le_of_ble_eq_true rfl)
 have ps:Rd vAll ((icomp [none,none,none] (.one 1) (iover (tke (lv 0) (cst (.int 24)))) yes (ione (bin .mod (blt false .abs [(lv 1)]) (bin .pow (cst (.int 10)) (cst (.int 80)))))) (KF (n+12) false E Q) [some (.lst (l.map .int)),none,none,none,none,none,none,none,none,none,none,none,none,none,none,none,none,none,none,none,none,none,none,none,none,none]) ((l.take 24).map fun x=>MV.int ((if x < 0 then -x else x).fmod (10 ^ (80:Int).toNat))):=flat_one (g:=fun x:Int=>MV.int ((if x < 0 then -x else x).fmod (10 ^ (80:Int).toNat)))▸rComp (u:=MV.int) (rOver (fun Q H q=>⟨24,rfl,lm,(List.map_take▸q.now:Q (.lst ((l.map MV.int).take 24)) H)⟩) l2) fun x _=>rTurn rfl rYes (rOne fun Q H q=>⟨.inr rfl,by decide,by decide,Int.pow_pos (by decide),q.now⟩)
 refine sAC (lcpT (ps.run trivial fun H1 x1=>⟨l2,?_⟩))
 have po:PoolAt H1.length (H1 ++ [cL ((l.take 24).map fun x=>MV.int ((if x < 0 then -x else x).fmod (10 ^ (80:Int).toNat)))]):=⟨(l.take 24).map fun x=>(if x < 0 then -x else x).fmod (10 ^ (80:Int).toNat),by rw [List.map_map];exact at_new,by rw [List.length_map];exact l24⟩
 refine sp_lform (n:=n+4) po fun t tr T rs pl d ks lo hi G H2 s2 hF p2 h0 h1 h2 c2=>⟨rfl,?_⟩
 show lawE (KF (n+12) false E Q) M [some (.lst (l.map .int)),some (.ref H1.length),some (shv t tr),some (.lst (rs.map Rw.row)),some (.lst G),none,none,none,none,none,none,none,none,none,none,none,none,none,none,none,none,none,none,none,none,none] H2
 refine ⟨Nat.zero_le _,bif_t rfl (alD (es':=[]) rfl (putO ?_))⟩
 show lawF (KF (n+12) false E Q) M (LwC.loc ⟨.lst (l.map .int),H1.length,t,tr,H2.length,rs, .lst G⟩ none none none none none none none none) (H2 ++ [cD []])
 have x2:Ext H2 (H2 ++ [cD []]):=Ext.rfl'.al
 exact law_f (C:=⟨.lst (l.map .int),H1.length,t,tr,H2.length,rs, .lst G⟩) h0 (Nat.ne_of_gt (at_lt s2.1)) (Nat.ne_of_gt (at_lt s2.2)) (p2.elim fun _ h=>Nat.ne_of_lt (at_lt h.1)) h1 h2 ((sees t tr T).mono x2 s2) (p2.ex x2) hF at_new q
end Mine
end
section
open PySem PySem.W PyProof.Rows
set_option maxHeartbeats 0
namespace Mine
@[reducible] noncomputable def runG (stp:SharedT→Thread→Option (SharedT × Thread))(ok:Thread→Bool)(n:Nat):SharedT→Thread→Option (SharedT × Thread):=
 @Nat.rec (fun _=>SharedT→Thread→Option (SharedT × Thread)) (fun s t=>some (s,t)) (fun _ ih s t=>@Bool.rec (fun _=>Option (SharedT × Thread))
  (@Bool.rec (fun _=>Option (SharedT × Thread)) none (@Option.rec (SharedT × Thread) (fun _=>Option (SharedT × Thread)) none (fun r=>ih r.1 r.2) (stp s t)) (ok t)) (some (s,t)) (through t)) n
theorem run_top {tb p w n₀ ann}:∀ {n s t s' t'},runG (stepT (denote tb) p w) (stepOk n₀ ann) n s t=some (s',t')→through t'=true→topRun tb p w n₀ ann (n+1) s.abs t=some s'.abs
 | 0,s,t,s',t',h,e=>by cases h;simp only [topRun,e]
 | n+1,s,t,s',t',h,e=>by
  unfold topRun
  cases a:through t with
  | true=>simp only [runG,a] at h;cases h;rfl
  | false=>cases b:stepOk n₀ ann t with
   | false=>simp only [runG,a,b] at h;cases h
   | true=>cases d:stepT (denote tb) p w s t with
    | none=>simp only [runG,a,b,d] at h;cases h
    | some r=>simp only [runG,a,b,d] at h;simp only [stepT_spec (s':=r.1) (t':=r.2) d];exact run_top h e
theorem left_of {p q:Program}{loose:List Str}{Xt:Shared→Bool}{α:Type}{Yf:Shared→α}{Ya:World→α}{N:Nat}
  (o:∀w:World,(fencedOpening treeTable p w N).map (fun s=>(s.heap,s.gens,s.drawn,s.toks)) =some (boot_heap w.params,Array.mk [],boot_drawn,boot_toks))
  (ns:∀P,(boot_heap P).isNs mainGlobals=true)
  (r:∀w os,∃s₁,topRun treeTable p w (boot_heap w.params).objs.size ((boot_heap w.params).nsMap mainGlobals "__annotations__") N ⟨boot_heap w.params,Array.mk [],boot_drawn,boot_toks,os⟩ (topStub p) =some s₁∧
   (staticsOk (importedModules p.main.body) (boot_heap w.params) s₁.heap && namesBound p s₁.heap && gensDone s₁ && laidKept (boot_heap w.params) s₁.heap) =true∧
   openSeen q loose (importedModules p.main.body) Xt true s₁=openGood q loose∧Yf s₁=Ya w):LeftO p q loose Xt Yf Ya N:=fun w=>by
 obtain ⟨s,a,b⟩:=Option.map_eq_some_iff.mp (o w)
 obtain ⟨h,g,d,k,os⟩:=s
 simp only [Prod.mk.injEq] at b
 obtain ⟨rfl,rfl,rfl,rfl⟩:=b
 obtain ⟨s₁,r,l1,l2,l3⟩:=r w os
 unfold openEnds
 rw [a]
 show Option.map _ (topFrom treeTable p w N _) =_
 unfold topFrom
 rw [show (⟨boot_heap w.params,Array.mk [],boot_drawn,boot_toks,os⟩:Shared).heap.isNs mainGlobals=true from ns _]
 show Option.map _ (Option.bind (topRun treeTable p w _ _ N _ _) _) =_
 rw [r]
 show Option.map _ (match _ with | true=>some s₁ | false=>none) =_
 rw [l1]
 exact congrArg some (Prod.ext l2 l3)
noncomputable def theP:Program:=OpenLaw.prog PySem.Challenge.rw_pb0500_01
noncomputable def bootT (P:Params):BT:=((boot_heap P).objs.toList.foldl (fun (x:BT × Nat) o=>(x.1.ins x.2 o,x.2+1)) (.nil,0)).1
theorem boot_T (P:Params):boot_heap P=absHeap (bootT P) (boot_heap P).objs.size (boot_heap P).life:=by kernel_rfl
theorem boot_ns (P:Params):(boot_heap P).isNs mainGlobals=true:=by kernel_rfl
noncomputable def s0T (w:World)(os:OsState):SharedT:=⟨bootT w.params,(boot_heap w.params).objs.size,(boot_heap w.params).life,Array.mk [],boot_drawn,boot_toks,os⟩
theorem open_theP:∀w:World,(fencedOpening treeTable theP w 5501).map (fun s=>(s.heap,s.gens,s.drawn,s.toks)) =some (boot_heap w.params,Array.mk [],boot_drawn,boot_toks):=
 boot_open (by rfl) (by rfl) (fun s=>by rfl)
end Mine
end
section
set_option maxHeartbeats 0
namespace Mine
open PySem PySem.W PySem.Calls PyProof.Rows PySem.SeqAt
noncomputable def theA:List Addr:=[3,45,46,70,71,166,167,194,195,216,217,237,238,265,266,320,321,374,375,467,468,488,489,451,207,297,29,36,35] ++ ([192,214,256,304,465,486,803] ++ (fnTab ++ mtdTab).map Prod.snd).flatMap fun a=>[a,a - 1]
noncomputable def Kof (A:List Addr)(h:Heap):Frag:=A.filterMap fun a=>(h.get? a).map (a,·)
noncomputable def getT (T:BT)(n:Nat)(a:Addr):Option Obj:=bif Nat.blt a n then (match some ((T.get a).getD default) with
 | some ⟨_,_, .freed,_⟩=>none
 | o=>o) else none
noncomputable def KofT (A:List Addr)(T:BT)(n:Nat):Frag:=A.filterMap fun a=>(getT T n a).map (a,·)
theorem kof_in {h:Heap}:∀A,(Kof A h).In h
 | [],_,_,e=>by cases e
 | b::A,a,o,e=>by
  unfold Kof at e
  rw [List.filterMap_cons] at e
  cases hb:h.get? b with
  | none=>rw [hb] at e;exact kof_in A a o e
  | some x=>
   rw [hb] at e
   change List.lookup a ((b,x) ::Kof A h) =_ at e
   rw [List.lookup_cons] at e
   split at e
   ·rename_i q;cases e;rw [eq_of_beq q];exact hb
   ·exact kof_in A a o e
theorem get_abs {T:BT}{n:Nat}{l:Life}{a:Addr}:(absHeap T n l).get? a=getT T n a:=by
 unfold Heap.get? getT
 rw [absHeap_at]
 cases q:Nat.blt a n with
 | true=>rw [if_pos (show a < n from Nat.ble_eq.mp q)];rfl
 | false=>rw [if_neg fun h:a < n=>nomatch q.symm.trans (Nat.ble_eq.mpr h)];rfl
theorem kof_abs {A:List Addr}{T:BT}{n:Nat}{l:Life}:Kof A (absHeap T n l) =KofT A T n:=congrArg (A.filterMap ·) (funext fun a=>by rw [get_abs])
noncomputable def fdAt (K:Frag)(a:Addr):Option FuncData:=(K.lookup a).bind fun o=>match o.data with
 | .func fd=>some fd
 | _=>none
noncomputable def bdy (fd:FuncData):Option (List Stmt):=match fd.body with
 | .stmts b=>some b
 | _=>none
structure Fn where
 ps:List Str
 body:List Stmt
 scope:Scope
noncomputable def fnAt (i:Nat):Option Fn:=match theBody[i]? with
 | some (.FunctionDef _ a b _ _ _ sc _ _ _)=>some ⟨a.args.map (·.arg),b,sc⟩
 | _=>none
noncomputable def methAt (i j:Nat):Option Fn:=match theBody[i]? with
 | some (.ClassDef _ _ _ bd _ _ _ _ _ _ _)=>(match bd[j]? with
  | some (.FunctionDef _ a b _ _ _ sc _ _ _)=>some ⟨a.args.map (·.arg),b,sc⟩
  | _=>none)
 | _=>none
noncomputable def nmOf (f:Fn):Nms:=f.ps.map (fun p=>(p,(f.scope.names.lookup p).getD .local)) ++ f.scope.names.filter fun q=> !f.ps.contains q.1
noncomputable abbrev Row:=Addr × Nat × Option Nat
noncomputable def rowFn (r:Row):Option Fn:=match r.2.2 with
 | none=>fnAt r.2.1
 | some j=>methAt r.2.1 j
noncomputable def fnRows:List Row:=[(195,10,some 0),(217,11,some 0),(266,13,some 0),(375,18,some 0),(468,38,some 0),(489,39,some 0),(277,14,none),(284,15,none),(289,16,none),(311,18,some 1),(318,18,some 2),(339,19,some 0),(346,19,some 1),(360,19,some 3),(367,19,some 4),(372,19,some 5),(398,25,none),(405,26,none),(424,29,none),(429,30,none),(436,32,none),(443,33,none),(450,34,none),
 (500,40,none),(507,41,none),(514,42,none),(521,43,none),(528,44,none),(535,45,none),(542,46,none),(549,47,none),(556,48,none),(563,49,none),(570,50,none),(577,51,none),(584,52,none),(589,53,none),(594,54,none),(601,55,none),(606,56,none),(613,57,none),(620,58,none),(627,59,none),(632,60,none),(639,61,none),(646,62,none),(651,63,none),(656,64,none),(663,65,none),(670,66,none),(677,67,none),(684,68,none),(691,69,none),
 (698,71,none),(705,72,none),(710,73,none),(715,74,none),(720,75,none),(727,76,none),(732,77,none),(737,78,none),(744,79,none),(751,80,none),(756,81,none),(766,83,none),(771,84,none),(776,85,none),(781,86,none),(786,87,none),(793,88,none),(798,89,none)]
noncomputable def psFd (fd:FuncData):List Str:=fd.params.args.map (·.arg)
noncomputable def fnK (fd:FuncData):Option Fn:=(bdy fd).map fun b=>⟨psFd fd,b,fd.scope⟩
noncomputable def okFn (K:Frag)(fd:FuncData):Bool:=decide (fd.globals=mainGlobals) && (decide (fd.builtins=builtinsNs) && (fd.closure.isEmpty && (codeIn K fd.code fd.qualname && fnSc (psFd fd) fd.scope (nmOf ⟨psFd fd,[],fd.scope⟩))))
noncomputable def bz (K:Frag)(fd:FuncData)(S:Setting)(l:List Value):Option (Bool × List Value):=(peek K S (bindArgs fd ⟨l,[]⟩)).map fun r=>(decide (r.map Prod.fst=psFd fd),r.map Prod.snd)
noncomputable abbrev Vf:=Nat→Value
noncomputable def vals (v:Vf)(n:Nat):List Value:=(List.range n).map v
noncomputable def dvT (k:Addr):List Value:=bif Nat.beq k 217 then [.bool false] else bif Nat.beq k 375 then [.none, .none] else []
noncomputable def mvOf (v:Value):MV:=match v with
 | .bool b=> .bool b
 | _=> .none
noncomputable def iniOf (K:Frag)(k:Addr):Addr:=match findIn K (.ref k) "__init__" with
 | some (some (.ref i))=>i
 | _=>0
noncomputable def hPl (K:Frag)(k i:Addr):Bool:=makesIn K k && (decide (findIn K (.ref k) "__init__"=some (some (.ref i))) && (decide (typeIn K (.ref i) =some (.type "function")) && (decide (findIn K (.ref k) "__setattr__"=some (some (.builtin "object.__setattr__"))) && (plainOver K k && ((clsIn K k).any (·.hasDict) && (((namesOf k).all fun f=>decide (takerIn K k f=some none)) && keepIn K (.ref k)))))))
noncomputable def lens (np d:Nat):List Nat:=(List.range (d+1)).map (· + (np - d))
noncomputable def codeOf (f:Fn):Option FC:=(blk (ps 30) (nmOf f) 20 f.body).map fun m=>⟨f.ps.length,(nmOf f).length - f.ps.length,m.1⟩
noncomputable def clsOf (k:Addr)(f:Fn):Option CC:=(rowC (ps 30) (nmOf f) k "self" f.body).bind fun r=>bif decide (r.1.1=namesOf k) then some ⟨f.ps.tail.length,(dvT k).map mvOf,r.1.2⟩ else none
noncomputable def enOf (r:Row):Option En:=(rowFn r).bind fun f=>bif ownC r.1 then (clsOf r.1 f).map .cls else (codeOf f).map .fn
theorem codes:fnRows.map enOf=fnRows.map fun r=>theT r.1:=by kernel_rfl
theorem code_law:(rowFn (803,90,none)).bind (fun f=>(topC (ps 30) (nmOf f) f.body).map fun m=>(⟨f.ps.length,(nmOf f).length - f.ps.length,m.1⟩:FC)) =some ⟨1,25,f803⟩:=by kernel_rfl
noncomputable abbrev Bf:=Vf→Setting→List (Option (Bool × List Value))
noncomputable def okCl (K:Frag)(k:Addr)(fd:FuncData):Bool:=hPl K k (iniOf K k) && (decide (psFd fd= ("self":Str) ::(psFd fd).tail) && decide (fd.scope.names.lookup ("self":Str) =some .local))
noncomputable def hnK (K:Frag)(r:Row):Option (Bool × Option Fn × Bf):=bif ownC r.1 then (fdAt K (iniOf K r.1)).map fun fd=>(okFn K fd && okCl K r.1 fd,fnK fd,fun v S=>(lens (psFd fd).tail.length (dvT r.1).length).map fun j=>bz K fd S (vals v (j+1)))
 else (fdAt K r.1).map fun fd=>(okFn K fd && keepIn K (.ref r.1),fnK fd,fun v S=>[bz K fd S (vals v (psFd fd).length)])
noncomputable def hnG (r:Row):Option (Bool × Option Fn × Bf):=(rowFn r).map fun f=>(true,some f,bif ownC r.1 then fun v _=>(lens f.ps.tail.length (dvT r.1).length).map fun j=>some (true,vals v (j+1) ++ (dvT r.1).drop (j+ (dvT r.1).length - f.ps.tail.length)) else fun v _=>[some (true,vals v f.ps.length)])
noncomputable def obR:List Row:=(803,90,none) ::fnRows
noncomputable def gR (K:Frag)(p:Str × Value):Bool:=decide (nsIn K mainGlobals p.1=some (some p.2))
noncomputable def gAt (K:Frag)(p:Str × Value):Bool:=gR K p || (decide (nsIn K mainGlobals p.1=some none) && (!(p.1 == "__name__") && decide (bootBuiltins p.1=some p.2)))
noncomputable def ownK (K:Frag)(D:Addr):Bool:=plainGet K D "__class__" && (hasDictIn K D && (decide (findIn K (.ref D) "__class__"=some (some (.builtin "object.__class__"))) && (decide (specialIn K (.builtin "object.__class__") "__get__"=some (some (.builtin "getset_descriptor.__get__"))) && (decide (takesIn K (.builtin "object.__class__") =some true) && decide (mroIn K D (.type "object") =some true)))))
noncomputable def owns:List Addr:=[195,217,266,375,468,489]
noncomputable def tyT (T:Ty):List (Value × Bool):=[(.type "NoneType",false),(.type "bool",T.isB),(.type "int",T.isI),(.type "str",T.isS),(.type "bytes",false),(.type "tuple",false),(.type "list",T.isL),(.type "dict",T.isD)] ++ owns.map fun k=>(.ref k,T.isK k)
noncomputable def tyK (K:Frag)(T:Ty):Bool:=(tyT T).all fun p=>decide (kitOne K p.1 T.at=some p.2)
noncomputable def fldK (K:Frag)(p:Str × Addr × Nat):Bool:=plainGet K p.2.1 p.1 && (hasDictIn K p.2.1 && (findIn K (.ref p.2.1) p.1).any fun attr=>noGet K attr)
noncomputable def mtdK (K:Frag)(p:Str × Addr):Bool:=plainGet K 375 p.1 && (decide (findIn K (.ref 375) p.1=some (some (.ref p.2))) && isFn K (.ref p.2))
noncomputable def bltV:List (Str × Value):=bltTab.map (fun p=>(p.1,p.2.val)) ++ [gt "isinstance" (.builtin "isinstance"),gt "range" (.type "range"),gt "reversed" (.type "reversed"),gt "zip" (.type "zip")] ++ tyTab.map fun p=>(p.1,p.2.at)
noncomputable def conX:List (Str × Value):=[gt "MOST_HOPS" (.int 30 393),gt "MARK" (.bytes #[254,255] 664),gt "OFF" (.str "Off" 770),gt "INHERITED_KEYS" (.ref 451),gt "law" (.ref 803),gt "DraftFault" (.ref 71)]
noncomputable def namesK (K:Frag):Bool:=(fnTab.all fun p=>gR K (p.1, .ref p.2)) && (conX.all (gR K) && (bltV.all (gAt K) && ((tyTab.all fun p=>tyK K p.2) && (fldTab.all (fldK K) && (mtdTab.all (mtdK K) && owns.all (ownK K))))))
noncomputable def excK (K:Frag):Bool:=keepIn K (.ref 71) && (decide (nsIn K mainGlobals "Exception"=some none) && (decide (findIn K (.ref 71) "__init__"=some (some (.ref 36))) && (decide (typeIn K (.ref 36) =some (.type "function")) && (decide (findIn K (.ref 71) "__setattr__"=some (some (.builtin "object.__setattr__"))) && (([("what":Str),"at"].all fun f=>decide (takerIn K 71 f=some none)))))))
noncomputable def exc1 (K:Frag):=(fdAt K 36).map fun fd=>(okFn K fd,psFd fd,[("self":Str),"what","at","Exception"].map (fun x=>fd.scope.names.lookup x),(fnK fd).map (·.body),fun V U S=>bz K fd S [V,U])
noncomputable def exc1G:=some (true,[("self":Str),"what","at"],[some NameKind.local,some .local,some .local,some .globalImplicit],(methAt 2 0).map (·.body),fun V U (_:Setting)=>some (true,[V,U,Value.int (-1) 209]))
noncomputable def obj71:Obj:=excClassObj "DraftFault" "DraftFault" 71 70 [.ref 46] [.ref 46, .type "Exception", .type "BaseException", .type "object"] true [] [] false none none (some (.ref 62)) none (some (.str "DraftFault" 252)) (some (.str "DraftFault" 260)) (some (.bool true)) "Exception.__new__"
noncomputable def inhV:List Value:=[.str "FT" 763, .str "Ff" 764, .str "V" 765, .str "DV" 766, .str "MaxLen" 767, .str "Opt" 768]
noncomputable def obs (K:Frag):=(namesK K && excK K,obR.map (hnK K),K.lookup 71,K.lookup 451,exc1 K)
noncomputable def obsG:=(true,obR.map hnG,some obj71,some ({cls:= .type "tuple",data:= .seq inhV.toArray}:Obj),exc1G)
end Mine
end
section
set_option maxHeartbeats 0
namespace Mine
open PySem PySem.W PySem.Calls PyProof.Rows PySem.SeqAt
theorem look_in:∀ {l:List (Nat × En)}{a:Nat}{e:En},look l a=some e→(a,e)∈l
 | [],_,_,h=>by cases h
 | p::l,a,e,h=>by
  unfold look at h
  cases q:Nat.beq p.1 a with
  | false=>rw [q] at h;exact .tail _ (look_in h)
  | true=>
   rw [q] at h
   cases h
   rw [← Nat.eq_of_beq_eq_true q]
   exact .head _
theorem A2 {a b:Bool}(h:(a && b) =true):a=true∧b=true:=Bool.and_eq_true_iff.mp h
theorem bif_some {α:Type}{b:Bool}{o:Option α}{a:α}(h:(bif b then o else none) =some a):b=true∧o=some a:=by
 cases b with
 | true=>exact ⟨rfl,h⟩
 | false=>cases h
theorem zip_back {α β:Type}:∀l:List (α × β),l= (l.map Prod.fst).zip (l.map Prod.snd)
 | []=>rfl
 | p::l=>congrArg (p:: ·) (zip_back l)
theorem vals_eq {Vs:List Value}:vals (fun i=>Vs.getD i .none) Vs.length=Vs:=by
 refine List.ext_getElem (by rw [vals,List.length_map,List.length_range]) fun i h1 h2=>?_
 simp only [vals,List.getElem_map,List.getElem_range]
 rw [List.getD_eq_getElem?_getD,List.getElem?_eq_getElem h2]
 rfl
theorem fd_of {K:Frag}{a:Addr}{fd:FuncData}(h:fdAt K a=some fd):∃fo,K.lookup a=some fo∧fo.data= .func fd:=by
 obtain ⟨fo,h1,h2⟩:=Option.bind_eq_some_iff.mp h
 obtain ⟨c,d,dt,sl⟩:=fo
 cases dt <;> first | (cases h2;exact ⟨_,h1,rfl⟩) | cases h2
theorem bdy_of {fd:FuncData}{b:List Stmt}(h:bdy fd=some b):fd.body= .stmts b:=by
 unfold bdy at h
 cases q:fd.body <;> rw [q] at h <;> cases h
 rfl
noncomputable def nmK (fd:FuncData):Nms:=nmOf ⟨psFd fd,[],fd.scope⟩
theorem fn_of {c:Wo}(X:c.K.In c.G){a:Addr}{fd:FuncData}{b:List Stmt}(h:fdAt c.K a=some fd)(hb:bdy fd=some b)(k:okFn c.K fd=true):∃fo,FnOk c a (psFd fd) b fd.scope (nmK fd) fo fd:=
 (fd_of h).imp fun fo q=>⟨X _ _ q.1,q.2,bdy_of hb,rfl,of_decide_eq_true (A2 k).1,of_decide_eq_true (A2 (A2 k).2).1,List.isEmpty_iff.mp (A2 (A2 (A2 k).2).2).1,codeRec_of X (A2 (A2 (A2 (A2 k).2).2).2).1,fnSc_iff (A2 (A2 (A2 (A2 k).2).2).2).2⟩
theorem bz_ok {c:Wo}(X:c.K.In c.G){fd:FuncData}{l r:List Value}{s:Shared}(h:∀S,bz c.K fd S l=some (true,r))(up:∀a o,c.G.get? a=some o→s.heap.get? a=some o):BindsTo s fd ⟨l,[]⟩ ((psFd fd).zip r):=kp_binds (fun a o q=>up a o (X a o q)) fun S=>by
 obtain ⟨x,h1,h2⟩:=Option.map_eq_some_iff.mp (h S)
 rw [h1,← of_decide_eq_true (congrArg Prod.fst h2),show r=x.map Prod.snd from (congrArg Prod.snd h2).symm,← zip_back]
theorem binds_of {c:Wo}(X:c.K.In c.G){fd:FuncData}(h:∀v S,bz c.K fd S (vals v (psFd fd).length) =some (true,vals v (psFd fd).length)):Binds c fd (psFd fd):=fun Vs s up hl=>
 vals_eq (Vs:=Vs)▸bz_ok X (hl▸h _) up
theorem fnK_of {fd:FuncData}{f:Fn}(h:fnK fd=some f):∃b,bdy fd=some b∧f= ⟨psFd fd,b,fd.scope⟩:=by
 obtain ⟨b,h1,h2⟩:=Option.map_eq_some_iff.mp h
 exact ⟨b,h1,h2.symm⟩
theorem fnB_of {c:Wo}(X:c.K.In c.G){r:Row}{f:Fn}(ho:ownC r.1=false)(h:hnK c.K r=hnG r)(hf:rowFn r=some f):∃fo fd,FnOk c r.1 f.ps f.body fd.scope (nmOf f) fo fd∧Binds c fd f.ps∧keepIn c.K (.ref r.1) =true:=by
 unfold hnK hnG at h
 rw [hf,ho] at h
 obtain ⟨fd,e1,h⟩:=Option.map_eq_some_iff.mp h
 have k:=A2 (congrArg Prod.fst h)
 obtain ⟨b,hb,rfl⟩:=fnK_of (congrArg (·.2.1) h)
 obtain ⟨fo,F⟩:=fn_of X e1 hb k.1
 exact ⟨fo,fd,F,binds_of X fun v S=>List.head_eq_of_cons_eq (congrFun (congrFun (congrArg (·.2.2) h) v) S),k.2⟩
theorem fnT_of {c:Wo}(T:Tb c){r:Row}{f:Fn}{fc:FC}(ho:ownC r.1=false)(h:hnK c.K r=hnG r)(hf:rowFn r=some f)(hc:codeOf f=some fc):FnT c r.1 fc:=by
 obtain ⟨m,_,e2⟩:=Option.map_eq_some_iff.mp hc
 cases e2
 obtain ⟨fo,fd,F,B,k⟩:=fnB_of T.bs.kin ho h hf
 exact ⟨f.ps,f.body,fd.scope,nmOf f,fo,fd,F,B,m.2 c T,rfl,k⟩
theorem vrs_dv {c:Wo}{m:Mp}{k:Addr}:VRs c m ((dvT k).map mvOf) (dvT k):=by
 unfold dvT
 cases Nat.beq k 217 with
 | true=>exact ⟨_,_,rfl,rfl,rfl⟩
 | false=>cases Nat.beq k 375 with
  | true=>exact ⟨_,_,rfl,rfl,_,_,rfl,rfl,rfl⟩
  | false=>exact rfl
theorem own_nd:∀k∈owns,(namesOf k).Nodup∧(namesOf k).length≤1000:=by decide
theorem lens_in {n d j:Nat}(h1:j≤n)(h2:n≤j+d):j∈lens n d:=
 List.mem_map.mpr ⟨j - (n - d),List.mem_range.mpr (Nat.lt_succ_of_le (Nat.sub_le_iff_le_add.mpr (Nat.le_trans h1 (Nat.sub_le_iff_le_add'.mp (Nat.le_refl (n - d)))))),Nat.sub_add_cancel (Nat.sub_le_iff_le_add.mpr h2)⟩
theorem clT_of {c:Wo}(T:Tb c){r:Row}{f:Fn}{cc:CC}(ho:ownC r.1=true)(h:hnK c.K r=hnG r)(hf:rowFn r=some f)(hc:clsOf r.1 f=some cc):ClT c r.1 cc:=by
 obtain ⟨m,_,hc⟩:=Option.bind_eq_some_iff.mp hc
 obtain ⟨g2,hc⟩:=bif_some hc
 cases hc
 unfold hnK hnG at h
 rw [hf,ho] at h
 obtain ⟨fd,e1,h⟩:=Option.map_eq_some_iff.mp h
 have g:=A2 (congrArg Prod.fst h)
 obtain ⟨b,hb,rfl⟩:=fnK_of (congrArg (·.2.1) h)
 have hB:∀v S,(lens (psFd fd).tail.length (dvT r.1).length).map (fun j=>bz c.K fd S (vals v (j+1))) = (lens (psFd fd).tail.length (dvT r.1).length).map fun j=>some (true,vals v (j+1) ++ (dvT r.1).drop (j+ (dvT r.1).length - (psFd fd).tail.length)):=fun v S=>congrFun (congrFun (congrArg (·.2.2) h) v) S
 have X:=T.bs.kin
 have g1:=A2 g.2
 have g3:=A2 g1.2
 have hp:=of_decide_eq_true g3.1
 obtain ⟨fo,F⟩:=fn_of X e1 hb g.1
 rw [hp] at F
 have nd:=own_nd r.1 (List.contains_iff_mem.mp ho)
 have p1:=A2 g1.1
 have p2:=A2 p1.2
 have p3:=A2 p2.2
 have p4:=A2 p3.2
 have p5:=A2 p4.2
 have p6:=A2 p5.2
 have p7:=A2 p6.2
 refine ⟨iniOf c.K r.1,"self",(psFd fd).tail,(dvT r.1).map mvOf,dvT r.1,b,fd.scope,nmK fd,fo,fd,⟨⟨p1.1,of_decide_eq_true p2.1,of_decide_eq_true p3.1,of_decide_eq_true p4.1,p5.1,p6.1,fun f hf=>of_decide_eq_true (List.all_eq_true.mp p7.1 f hf)⟩,F,by decide,of_decide_eq_true g3.2,vrs_dv,fun V Vs s up l1 l2=>?_,nd.1,nd.2,ho⟩,of_decide_eq_true g2▸m.2 c T,rfl,rfl,p7.2⟩
 have q:∀S,bz c.K fd S (V::Vs) =some (true,V::(Vs ++ (dvT r.1).drop (Vs.length+ (dvT r.1).length - (psFd fd).tail.length))):=fun S=>by
  have h:=List.map_inj_left.mp (hB (fun i=>(V::Vs).getD i .none) S) _ (lens_in l1 l2)
  rw [show vals _ (Vs.length+1) =V::Vs from vals_eq] at h
  exact h
 have h:=bz_ok X q up
 rw [hp] at h
 exact h
end Mine
end
section
set_option maxHeartbeats 0
namespace Mine
open PySem PySem.W PySem.Calls PyProof.Rows PySem.SeqAt
theorem lkm {β:Type}:∀ {l:List (Str × β)}{x:Str}{v:β},l.lookup x=some v→(x,v)∈l
 | [],_,_,h=>by cases h
 | (y,u) ::l,x,v,h=>by
  rw [List.lookup_cons] at h
  split at h
  ·rename_i q;cases h;rw [eq_of_beq q];exact .head _
  ·exact .tail _ (lkm h)
theorem gR_ok {c:Wo}(W:Wd c)(X:c.K.In c.G){x:Str}{V:Value}(h:gR c.K (x,V) =true):c.mg x=some V:=mg_of X W.g (of_decide_eq_true h)
theorem gAt_ok {c:Wo}(W:Wd c)(X:c.K.In c.G){x:Str}{V:Value}(h:gAt c.K (x,V) =true):GlobAt c x V:=(Bool.or_eq_true_iff.mp h).imp (gR_ok W X) fun q=>
 ⟨mg_none_of X W.g (of_decide_eq_true (A2 q).1),(by rintro rfl;cases (A2 (A2 q).2).1),of_decide_eq_true (A2 (A2 q).2).2⟩
theorem ty_ok {c:Wo}{T:Ty}(h:tyK c.K T=true):TyOk c T:=by
 have h:∀p∈tyT T,kitOne c.K p.1 T.at=some p.2:=fun p hp=>of_decide_eq_true (List.all_eq_true.mp h p hp)
 have e:=List.forall_mem_append.mp h
 obtain ⟨a1,e1⟩:=List.forall_mem_cons.mp e.1
 obtain ⟨a2,e1⟩:=List.forall_mem_cons.mp e1
 obtain ⟨a3,e1⟩:=List.forall_mem_cons.mp e1
 obtain ⟨a4,e1⟩:=List.forall_mem_cons.mp e1
 obtain ⟨a5,e1⟩:=List.forall_mem_cons.mp e1
 obtain ⟨a6,e1⟩:=List.forall_mem_cons.mp e1
 obtain ⟨a7,e1⟩:=List.forall_mem_cons.mp e1
 exact ⟨a1,a2,a3,a4,a5,a6,a7,e1 _ (.head _),fun k o=>e.2 _ (List.mem_map_of_mem (f:=fun k=>(Value.ref k,T.isK k)) (List.contains_iff_mem.mp o))⟩
theorem any_some {α:Type}{p:α→Bool}:∀ {o:Option α},o.any p=true→∃a,o=some a∧p a=true
 | some a,h=>⟨a,rfl,h⟩
theorem fld_ok {c:Wo}{x:Str}{k:Addr}{j:Nat}(ho:k∈owns)(hx:(namesOf k)[j]?=some x)(h:fldK c.K (x,k,j) =true):FldOk c k j x:=
 ⟨hx,(own_nd k ho).1,(A2 h).1,(A2 (A2 h).2).1,any_some (A2 (A2 h).2).2⟩
theorem mtd_ok {c:Wo}{x:Str}{f:Addr}(hx:x∉namesOf 375)(h:mtdK c.K (x,f) =true):MtdOk c 375 x f:=
 ⟨(A2 h).1,of_decide_eq_true (A2 (A2 h).2).1,(A2 (A2 h).2).2,hx⟩
theorem own_ok {K:Frag}{k:Addr}(h:ownK K k=true):OwnCl K k:=
 ⟨(A2 h).1,(A2 (A2 h).2).1,of_decide_eq_true (A2 (A2 (A2 h).2).2).1,of_decide_eq_true (A2 (A2 (A2 (A2 h).2).2).2).1,of_decide_eq_true (A2 (A2 (A2 (A2 (A2 h).2).2).2).2).1,of_decide_eq_true (A2 (A2 (A2 (A2 (A2 h).2).2).2).2).2⟩
noncomputable def cd71:ClassData:=match obj71.data with
 | .cls cd=>cd
 | _=>default
theorem exc_st {K:Frag}(h:K.lookup 71=some obj71)(hs:findIn K (.ref 71) "__setattr__"=some (some (.builtin "object.__setattr__")))(hf:∀f∈ [("what":Str),"at"],takerIn K 71 f=some none):ExcSt K 71 ["what","at"] cd71 where
 cls:=by unfold clsIn;rw [h];rfl
 obj:=by decide
 ne:=rfl
 pass:=fun self=>by kernel_rfl
 dict:=rfl
 set:=hs
 free:=hf
theorem body_sh:∃q1 q2 q3 q4 q5 q6 q7 q8 q9 q10 q11 q12 q13 q14,(methAt 2 0).map (·.body) =some [.Expr (.Call (.Attribute (.Name "Exception" q1) "__init__" q2) [.Name "self" q3, .Name "what" q4] [] q5) q6,
  .Assign [.Attribute (.Name "self" q7) "what" q8] (.Name "what" q9) q10, .Assign [.Attribute (.Name "self" q11) "at" q12] (.Name "at" q13) q14]∧(q2.endLine == q5.line) =true:=
 ⟨_,_,_,_,_,_,_,_,_,_,_,_,_,_,rfl,by kernel_rfl⟩
end Mine
end
section
set_option maxHeartbeats 0
namespace Mine
open PySem PySem.W PySem.Calls PyProof.Rows PySem.SeqAt
theorem exc_ok {c:Wo}(W:Wd c)(X:c.K.In c.G)(hn:c.mg "DraftFault"=some (.ref 71))(k:excK c.K=true)(h71:c.K.lookup 71=some obj71)(h:exc1 c.K=exc1G):ExcOk c "DraftFault" 71:=by
 have k2:=A2 (A2 k).2
 have k3:=A2 k2.2
 have k4:=A2 k3.2
 have k5:=A2 k4.2
 obtain ⟨fd,hf,h⟩:=Option.map_eq_some_iff.mp h
 have f1:okFn c.K fd=true:=congrArg Prod.fst h
 have f2:psFd fd= [("self":Str),"what","at"]:=congrArg (·.2.1) h
 have f3:=congrArg (·.2.2.1) h
 have f5:∀V U S,bz c.K fd S [V,U] =some (true,[V,U,Value.int (-1) 209]):=fun V U S=>congrFun (congrFun (congrFun (congrArg (·.2.2.2.2) h) V) U) S
 obtain ⟨q1,q2,q3,q4,q5,q6,q7,q8,q9,q10,q11,q12,q13,q14,hbe,hl⟩:=body_sh
 obtain ⟨f,hf1,hf2⟩:=Option.map_eq_some_iff.mp ((congrArg (·.2.2.2.1) h).trans hbe)
 obtain ⟨b,hb,rfl⟩:=fnK_of hf1
 cases hf2
 obtain ⟨fo,F⟩:=fn_of X hf hb f1
 rw [f2] at F
 injection f3 with a1 f3
 injection f3 with a2 f3
 injection f3 with a3 f3
 injection f3 with a4 f3
 exact ⟨hn,by decide,(A2 k).1,⟨_,_,_,_,_,_,_,_,_,_,_,_,_,_,_,_,_,X _ _ h71,by decide⟩,fun A l g u t Q E ok R hQ=>exc_make' W (mg_none_of X W.g (of_decide_eq_true k2.1)) X (X _ _ h71) (by decide) (by decide) (by decide) (exc_st h71 (of_decide_eq_true k5.1) fun f hf=>of_decide_eq_true (List.all_eq_true.mp k5.2 f hf))
  ⟨of_decide_eq_true k3.1,of_decide_eq_true k4.1,F,⟨q1,q2,q3,q4,q5,q6,q7,q8,q9,q10,q11,q12,q13,q14,rfl,hl⟩,a1,a2,a3,a4,⟨_,fun V U s up=>f2▸bz_ok X (f5 V U) up⟩⟩
  ok.depth ok.units (fun a o q=>R.z a o (R.base a o q)) fun h' tk e o T a1 a2 a3 a4 a5=>hQ h' tk e ⟨o,T,a1,a2,a3,a4,a5⟩⟩
theorem fld_own:∀p∈fldTab,p.2.1∈owns∧(namesOf p.2.1)[p.2.2]?=some p.1:=by decide
theorem mtd_own:∀p∈mtdTab,p.1∉namesOf 375:=by decide
theorem tb_of {c:Wo}(W:Wd c)(X:c.K.In c.G)(h:obs c.K=obsG):Tb c:=by
 have h1:=A2 (congrArg Prod.fst h)
 have a1:=A2 h1.1
 have a2:=A2 a1.2
 have a3:=A2 a2.2
 have a4:=A2 a3.2
 have a5:=A2 a4.2
 have a6:=A2 a5.2
 have al:∀ {α:Type}{p:α→Bool}{l:List α},l.all p=true→∀x∈l,p x=true:=List.all_eq_true.mp
 have cx:∀x V,(x,V)∈conX→c.mg x=some V:=fun x V m=>gR_ok W X (al a2.1 _ m)
 have bl:∀x V,(x,V)∈bltV→GlobAt c x V:=fun x V m=>gAt_ok W X (al a3.1 _ m)
 have o451:c.G.get? 451=some _:=X _ _ (congrArg (·.2.2.2.1) h)
 have con:∀p∈conTab,∃V,c.mg p.1=some V∧VR c ⟨c.G.get?,[]⟩ p.2 V:=
  List.forall_mem_cons.mpr ⟨⟨_,cx _ _ (.head _),_,rfl⟩,List.forall_mem_cons.mpr ⟨⟨_,cx _ _ (.tail _ (.head _)),_,rfl⟩,List.forall_mem_cons.mpr ⟨⟨_,cx _ _ (.tail _ (.tail _ (.head _))),_,rfl⟩,List.forall_mem_cons.mpr ⟨⟨_,cx _ _ (.tail _ (.tail _ (.tail _ (.head _)))),
   451,inhV,0,rfl,rfl,o451,_,_,rfl,⟨_,rfl⟩,_,_,rfl,⟨_,rfl⟩,_,_,rfl,⟨_,rfl⟩,_,_,rfl,⟨_,rfl⟩,_,_,rfl,⟨_,rfl⟩,_,_,rfl,⟨_,rfl⟩,rfl⟩,fun p hp=>absurd hp List.not_mem_nil⟩⟩⟩⟩
 exact ⟨⟨W,X,fun k o=>own_ok (al a6.2 _ (List.contains_iff_mem.mp o))⟩,fun x f q=>gR_ok W X (al a1.1 _ (lkm q)),fun x v q=>con _ (lkm q),fun x r q=>bl _ _ (List.mem_append_left _ (List.mem_append_left _ (List.mem_map_of_mem (f:=fun p:Str × Pr=>(p.1,p.2.val)) (lkm q)))),bl _ _ (by decide),bl _ _ (by decide),bl _ _ (by decide),bl _ _ (by decide),fun x T q=>⟨bl _ _ (List.mem_append_right _ (List.mem_map_of_mem (f:=fun p:Str × Ty=>(p.1,p.2.at)) (lkm q))),ty_ok (al a4.1 _ (lkm q))⟩,
  fun x k j q=>fld_ok (fld_own _ (lkm q)).1 (fld_own _ (lkm q)).2 (al a5.1 _ (lkm q)),fun x f q=>mtd_ok (mtd_own _ (lkm q)) (al a6.1 _ (lkm q)),exc_ok W X (cx _ _ (by decide)) h1.2 (congrArg (·.2.2.1) h) (congrArg (·.2.2.2.2) h)⟩
theorem row_of {f:Addr}{e:En}(q:theT f=some e):∃r∈fnRows,r.1=f:=
 List.mem_map.mp ((show tl.map Prod.fst ⊆ fnRows.map Prod.fst by decide +kernel) (List.mem_map_of_mem (look_in q)))
theorem see_of {K:Frag}(h:obs K=obsG){r:Row}(hr:r∈obR):hnK K r=hnG r:=List.map_inj_left.mp (show obR.map (hnK K) =obR.map hnG from congrArg (·.2.1) h) _ hr
theorem en_of {c:Wo}(T:Tb c)(h:obs c.K=obsG)(f:Addr)(e:En)(q:theT f=some e):EnT c f e:=by
 obtain ⟨r,hr,rfl⟩:=row_of q
 have hs:=see_of h (.tail _ hr)
 have q:=(List.map_inj_left.mp codes _ hr).trans q
 obtain ⟨f,hf,q⟩:=Option.bind_eq_some_iff.mp q
 cases ho:ownC r.1 with
 | false=>
  rw [ho] at q
  obtain ⟨x,hx,e⟩:=Option.map_eq_some_iff.mp q
  cases e
  exact fnT_of T ho hs hf hx
 | true=>
  rw [ho] at q
  obtain ⟨x,hx,e⟩:=Option.map_eq_some_iff.mp q
  cases e
  exact clT_of T ho hs hf hx
theorem ints_vr {c:Wo}{m:Mp}{vs:List Value}{l:List Int}(h:IntsAre vs l):VRs c m (l.map .int) vs:=by
 induction h with
 | nil=>rfl
 | cons=>rename_i ih;exact ⟨_,_,rfl,⟨_,rfl⟩,ih⟩
theorem law_called {c:Wo}{s:Shared}(W:Wd c)(X:c.K.In c.G)(h:obs c.K=obsG)(hs:c.G=s.heap){a:Addr}{vs:List Value}{l:List Int}(ha:s.heap.get? a=some {cls:= .type "list",data:= .seq vs.toArray})(na:(a == sysModules) =false)(hv:IntsAre vs l)(hl:l.length≤1000) :
  wpAny (model c.prog c.w) callerA (call (.ref 803) [.ref a]) (fun v s'=>v= .bool true∧(∀b o,s.heap.get? b=some o→s'.heap.get? b=some o)∧s'.gens=s.gens∧s'.os=s.os) (fun _ _=>False) s:=by
 have T:=tb_of W X h
 obtain ⟨f,hf,e2⟩:=Option.bind_eq_some_iff.mp code_law
 obtain ⟨m,_,e3⟩:=Option.map_eq_some_iff.mp e2
 obtain ⟨fo,fd,F,Bn,_⟩:=fnB_of X rfl (see_of h (.head _)) hf
 have em:m.1=f803:=congrArg FC.body e3
 have el:f.ps.length=1:=congrArg FC.np e3
 have R:SR c ⟨⟨s.heap.get?,[]⟩,[],s⟩:=⟨fun _ _ q=>q,fun a o q=>by rw [← hs];exact q,rfl, .nil,fun i k a q=>nomatch q⟩
 have key:=sim_fn (c:=c) (φ:=⟨callerA,[],13,false⟩) (g:=⟨⟨s.heap.get?,[]⟩,[],s⟩) (k:=25) (m:=f803) (Q:=fun v _=>v= .bool true) (E:=fun _=>False) (vs:=[.lst (l.map .int)]) (Vs:=[.ref a]) T.bs (calls T.bs (en_of T h) 12) rfl F Bn (fun φ' hL hl K N lc g W h q=>m.2 c T φ' K N lc g W ⟨hl,hL⟩ h (em▸q)) ⟨_,_,rfl,⟨a,vs,0,rfl,na,ha,ints_vr hv⟩,rfl⟩ (by rw [el];rfl) ⟨rfl,fun e he=>(nomatch he),by decide +kernel,by decide +kernel,rfl⟩
  (cl_eq▸law_true (n:=0) hl fun _=>rfl)
 refine wpAny_mono (key R) (fun v s' q=>?_) fun _ s' q=>?_
 ·obtain ⟨g',rfl,R',S,x,q,rfl⟩:=q
  obtain ⟨h',t,e⟩:=S.same
  exact ⟨q,fun b o e=>(S.keep b o e (fun ⟨i,o,q,_⟩=>nomatch q) nofun).eq,by rw [e],by rw [e]⟩
 ·obtain ⟨g',rfl,R',S,x⟩:=q
  exact x.E
end Mine
end
section
set_option maxHeartbeats 0
namespace Mine
open PySem PySem.W PySem.Calls PyProof.Rows PySem.SeqAt
noncomputable abbrev stpX:=@PySem.W.Fast.tw10156331382660048174
noncomputable abbrev denX:=@PySem.W.Fast.tw11892475500146522536
noncomputable abbrev tabX:=@PySem.W.Fast.tw14364793385576792824
noncomputable abbrev okX:=@PySem.W.Fast.tw6613529449190102663
noncomputable def fin (w:World)(os:OsState):=runG (stpX (denX tabX) theP w) (okX (boot_heap w.params).objs.size ((boot_heap w.params).nsMap mainGlobals "__annotations__")) 5500 (s0T w os) (topStub theP)
noncomputable def theQ:Program:=view theP [90]
noncomputable def theLoose:List Str:=theP.boundNames.filter (· != "law")
noncomputable def seen1 (s:SharedT)(w:World):=(staticsOk (importedModules theP.main.body) (boot_heap w.params) s.abs.heap && namesBound theP s.abs.heap && gensDone s.abs && laidKept (boot_heap w.params) s.abs.heap,openSeen theQ theLoose (importedModules theP.main.body) (fun _=>true) true s.abs)
theorem top_run1 (w:World)(os:OsState):(fin w os).map (fun r=>(through r.2,seen1 r.1 w)) =some (true,true,openGood theQ theLoose):=by kernel_rfl
theorem top_run2 (w:World)(os:OsState):(fin w os).map (fun r=>obs (KofT theA r.1.tree r.1.n)) =some obsG:=by kernel_rfl
end Mine
end
section
set_option maxHeartbeats 0
namespace Mine
open PySem PySem.W PySem.Calls PyProof.Rows PySem.SeqAt
theorem abs0 (w:World)(os:OsState):(s0T w os).abs= ⟨boot_heap w.params,Array.mk [],boot_drawn,boot_toks,os⟩:=by
 rw [boot_T]
 rfl
theorem left_law:LeftO theP theQ theLoose (fun _=>true) (fun s=>obs (Kof theA s.heap)) (fun _=>obsG) 5501:=by
 refine left_of open_theP boot_ns fun w os=>?_
 obtain ⟨⟨s,t⟩,a,b⟩:=Option.map_eq_some_iff.mp (top_run1 w os)
 have c:=top_run2 w os
 rw [a] at c
 unfold fin at a
 simp only [stpX,denX,tabX,okX,← PySem.W.Fast.te10156331382660048174,← PySem.W.Fast.te11892475500146522536,← PySem.W.Fast.te14364793385576792824,← PySem.W.Fast.te6613529449190102663] at a
 have b2:=congrArg Prod.snd b
 refine ⟨s.abs,abs0 w os▸run_top a (congrArg Prod.fst b),congrArg Prod.fst b2,congrArg Prod.snd b2,?_⟩
 show obs (Kof theA (absHeap s.tree s.n s.life)) =obsG
 rw [kof_abs]
 exact Option.some.inj c
theorem sysm_of {p:Program}{loose:List Str}{mean:ExcName→Option Value}{mg mb:Str→Option Value}{h:Heap}(T:Top p loose mean mg mb h)(i:importsNone p=true):∃o,h.get? sysModules=some o:=by
 obtain ⟨mm,⟨o,_,_,e,_⟩,_⟩:=(T.seer i).mods
 exact ⟨o,e⟩
theorem exact_list {P:Params}{h:Heap}{a:Addr}{vs:List Value}{xs:List WData}(hL:h.IsList a vs.toArray)(x:Well P h (.ref a) (.list xs)):h.get? a=some {cls:= .type "list",data:= .seq vs.toArray}:=by
 cases x with
 | list e r=>
  obtain ⟨o,h1,_,n,h3⟩:=hL
  rw [e] at h1
  cases h1
  injection h3 with h3 h4
  rw [e,h3]
end Mine
end
section
set_option maxHeartbeats 0
open PySem PySem.W PySem.Calls PyProof.Rows PySem.SeqAt Mine
theorem Mine.no_sys {p:Program}{loose:List Str}{mean:ExcName→Option Value}{mg mb:Str→Option Value}{h:Heap}{a:Addr}{vs:List Value}(T:Top p loose mean mg mb h)(i:importsNone p=true)(e:h.get? a=some {cls:= .type "list",data:= .seq vs.toArray}):(a == sysModules) =false:=by
 obtain ⟨mm,⟨o,es,n,e',d,_⟩,_⟩:=(T.seer i).mods
 refine beq_eq_false_iff_ne.mpr fun q=>?_
 rw [q] at e
 cases e.symm.trans e'
 cases d
noncomputable def Mine.Ok1 (s₀ s₁:Shared)(l:List Int)(s':Shared):Prop:=GoodWG PySem.Challenge.rw_pb0500_01.row.claim (classAt s₀.heap) (ExcName.means s₀.heap) [ofPy (.list (l.map .int))] s₁ (.ok (.ret (.bool true))) s'
theorem Mine.ok1 {s₀ s₁ s':Shared}{l:List Int}(hg:s₁.gens= #[])(q2:∀b o,s₁.heap.get? b=some o→s'.heap.get? b=some o)(q3:s'.gens=s₁.gens)(q4:s'.os=s₁.os):Ok1 s₀ s₁ l s':=by
 refine ⟨.inl ⟨.bool true, .bool true,[],rfl,raisesW_false ?hn, .bool true,?hp,fun _=>⟨.nil,fun a m=>nomatch m⟩⟩, .of_keep q2,q4, .of_eq (q3.trans hg)⟩
 case hn=>wrow_none_raised
 case hp=>kc_post
theorem Mine.A3 {a b:Bool}(h:a=true)(k:b=true):(a && b) =true:=by rw [h,k];rfl
theorem Mine.law_said:PySem.Challenge.rw_pb0500_01.wellSaid=true:=by
 rw [PySem.W.Fast.te9446332074065402090]
 repeat (refine A3 ?_ (by decide +kernel))
 decide +kernel
theorem PySem.Challenge.cw_pb0500_01_holds : PySem.Challenge.rw_pb0500_01.Holds := by
 refine holds_law law_said fun said=>PySem.W.holds_open (XP:=fun _ _=>True) (YP:=fun _ h=>∃K:Frag,K.In h∧obs K=obsG) left_law (fun w s e=>⟨Kof theA s.heap,kof_in _,e⟩) (fun w h h' ⟨K,x,e⟩ k=>⟨K,x.keeps k,e⟩) (fun _ _=>trivial) (fun _ _ _ _ _=>trivial) (by rfl) (by rfl) (by rfl) (fun s e=>recFacts_of (by rfl)) (by rfl) said (by decide +kernel) ⟨rfl,rfl,rfl,rfl,rfl,by decide +kernel⟩ ?hw ?call
 case hw=>w_witness2
 case call=>
  intro w s₀ s₁ mg mb G Y fa o pm cd doc dV kV ho hd hcd hD hmg hg args vals as hpre hlay hrd hwl hlo
  have key:∀a l vs,s₁.heap.get? a=some {cls:= .type "list",data:= .seq vs.toArray}→IntsAre vs l→l.length≤1000→wpAny (model theP w) callerA (call (.ref fa) [.ref a]) (fun v s'=>v= .bool true∧Ok1 s₀ s₁ l s') (fun _ _=>False) s₁:=fun a l vs hL hI hl=>Ground.open G fun T _ _ _ _=>Y.elim fun K Y=>by
   have W:Wd ⟨theP,w,s₁.heap,K,mg,mb⟩:=⟨T.g,T.b,T.builtins,T.nolimit,sysm_of T (by kernel_rfl)⟩
   have hf:=(gR_ok W Y.1 (x:="law") (V:= .ref 803) (List.all_eq_true.mp (A2 (A2 (A2 (congrArg Prod.fst Y.2)).1).2).1 _ (by decide))).symm.trans hmg
   injection hf with hf
   rw [← hf]
   exact wpAny_mono (law_called W Y.1 Y.2 rfl hL (no_sys T (by kernel_rfl) hL) hI hl) (fun v s' q=>⟨q.1,ok1 hg q.2.1 q.2.2.1 q.2.2.2⟩) fun _ _ f=>f
  clear G Y ho hd hcd hD hmg hg
  wrow_args hpre hlay hrd hwl hlo
  rename IntsAre _ _=>hI
  rename s₁.heap.IsList _ _=>hL
  rename Well _ _ _ _=>hW
  refine wpAny_mono (key _ _ _ (exact_list hL hW) hI ?_) (fun v s' q=>?_) fun _ _ f=>f.elim
  ·omega
  ·obtain ⟨rfl,q⟩:=q
   exact q
end
