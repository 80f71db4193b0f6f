import PyProof.Rows.All
import PyProof.MeetsDict
import PyProof.Draws
import PyProof.EnumMake
import PyProof.ExcBaseAll.ValueError
import PyProof.StationsW
import PyProof.RangeFor
import KE.KListMore
import KE.KDictSum
import KE.KFromBytes
import Wide.FinOn
import OpenK.AllK
import Wide.All
import Lean
import PySem.Challenge.RW_nz0042_01
set_option Elab.async false
set_option linter.all false
set_option maxRecDepth 100000
set_option genSizeOf false
set_option genInjectivity false
set_option genCtorIdx false
set_option tactic.hygienic false
noncomputable section
open PySem.Str (ofString)
def fG.aO{α:Sort _}{a b:α}(h:a=b:=by kernel_rfl):a=b:=h
def fG.aP{a:Prop}(h:a:=by decide):a:=h
def fG.pX{a:Prop}(h:a:=by decide+kernel):a:=h
namespace fG
open PySem PySem.W PySem.Calls PyProof.Rows
abbrev ai:=List Value
abbrev bq:=Option Value
abbrev aC:=List Nat
abbrev aF:=List Str
abbrev bW:=Shared->Prop
abbrev dz:=Option Addr
abbrev bJ:=List Addr
abbrev bz:=List (Int×Int)
abbrev cC:=List (Str×Value)
abbrev hJ:=Value->Prop
abbrev dN:=List Int
abbrev fB:=Option Bool
def dO{α:Type _}{l:List α}{i:Nat}{a:α}(h:l[i]? =some a):∃h:i<l.length,l[i]=a:=List.getElem?_eq_some_iff.mp h
def bQ{α:Type _}{p:α->Bool}{l:List α}(h:l.all p=true):∀x∈l,p x=true:=List.all_eq_true.mp h
def dA{α β:Type _}{f:α->β}{o:Option α}{b:β}(h:o.map f=some b):∃a,o=some a/\f a=b:=Option.map_eq_some_iff.mp h
def cI{α:Type _}{a b:α}(h:a∈[b]):a=b:=List.mem_singleton.mp h
def fY{α:Type _}{a b:α}{l:List α}(h:a∈b::l):a=b\/a∈l:=List.mem_cons.mp h
def fZ{α:Type _}{a:α}{s t:List α}(h:a∈s++t):a∈s\/a∈t:=List.mem_append.mp h
def ja{α β:Type _}{f:α->β}{l:List α}{b:β}(h:b∈l.map f):∃a,a∈l/\f a=b:=List.mem_map.mp h
def jb{α β:Type _}{f:α->β}{l:List α}{b:β}(h:∃a,a∈l/\f a=b):b∈l.map f:=List.mem_map.mpr h
def pY{m n:Nat}(h:m∈List.range n):m<n:=List.mem_range.mp h
def nr{α:Type _}{a:α}{l:List α}(h:(a::l).Nodup):a∉l/\l.Nodup:=List.nodup_cons.mp h
def aa:=@Nat.le_trans
def ae:=@wpAny_bind
def ak:=@congrArg
def ar:=@Option.some.inj
def au:=@List.length_map
def av:=@if_pos
def ax:=@wpAny_pure
def aB:=@if_neg
def aE:=@List.length_append
def aJ:=@wpAny_mono
def aH:=@Nat.le_refl
def aQ:=@List.append_assoc
def aW:=@Nat.le_add_right
def aZ:=@decide_eq_true
def bc:=@Nat.add_le_add_left
def bf:=@Nat.add_assoc
def bg:=@Nat.le_of_ble_eq_true
def bF:=@wpAny_holding
def bM:=@List.map_append
def bN:=@List.getElem?_eq_getElem
def bO:=@Nat.zero_le
def bP:=@Nat.lt_of_le_of_lt
def b8:=@Ne.symm
def b9:=@decide_eq_false
def cf:=@of_decide_eq_true
def cy:=@List.getElem?_map
def cJ:=@Nat.add_le_add
def cL:=@Array.length_toList
def cM:=@Nat.le_of_lt
def cU:=@Heap.get?_push_of_some
def cW:=@beq_self_eq_true
def cX:=@Nat.zero_add
def cY:=@Nat.le_add_left
def c8:=@Bool.false_ne_true
def c9:=@List.append_nil
def de:=@Nat.le_of_succ_le
def dq:=@List.map_map
def dr:=@Bool.and_eq_true
def dI:=@Nat.lt_of_lt_of_le
def dQ:=@beq_eq_false_iff_ne
def dS:=@List.not_mem_nil
def d9:=@Int.natCast_nonneg
def et:=@Int.le_refl
def eI:=@isSubtype_type
def eJ:=@List.length_set
def eM:=@Nat.sub_add_cancel
def eU:=@Int.ofNat_le
def eV:=@List.mem_cons
def fa:=@Heap.get?_push_size
def fb:=@wpAny_standAt
def fg:=@Nat.add_comm
def fC:=@List.mem_append_right
def fD:=@List.getElem?_append_right
def fO:=@List.getElem?_append_left
def gg:=@Bool.or_eq_true
def gi:=@Nat.le_sub_of_add_le
def gE:=@Nat.le_of_succ_le_succ
def hP:=@Nat.le_succ_of_le
def hR:=@List.getElem?_set_ne
def hU:=@Nat.add_sub_cancel_left
def hV:=@Nat.add_le_add_right
def hX:=@Nat.mul_le_mul_left
def iT:=@List.mem_append_left
end fG
namespace fG
open PySem
def eA{α:Type _}{x:α}{C:Prop}(e:none=some x):C:=nomatch e
def zSN{α:Type _}{x:α}{C:Prop}(e:some x=none):C:=nomatch e
def qP{α:Type _}{x:α}{C:Prop}(e:x∈([]:List α)):C:=nomatch e
def iM{C:Prop}(e:false=true):C:=nomatch e
def Qu{C:Prop}(e:true=false):C:=nomatch e
set_option genCtorIdx true in
inductive At where
 |op|a|b|c|line|sort|first|last|target|depth|kind|name|params|slots|rows|hY|children|starts|number|code|seen|gF|waiting
 deriving DecidableEq
noncomputable def At.str:At->Str
 |.op=>ofString "op"|.a=>ofString "a"|.b=>ofString "b"|.c=>ofString "c"|.line=>ofString "line"
 |.sort=>ofString "sort"|.first=>ofString "first"|.last=>ofString "last"|.target=>ofString "target"|.depth=>ofString "depth"
 |.kind=>ofString "kind"|.name=>ofString "name"|.params=>ofString "params"|.slots=>ofString "slots"|.rows=>ofString "rows"
 |.hY=>ofString "catches"|.children=>ofString "children"|.starts=>ofString "starts"|.number=>ofString "number"
 |.code=>ofString "code"|.seen=>ofString "seen"|.gF=>ofString "depths"|.waiting=>ofString "waiting"
inductive MO where
 |list (xs:ai)
 |ro (xs:ai)
 |tup (xs:ai)
 |dict (es:cC)
 |ir (es:cC)
 |inst (c:Addr) (d:Addr)
 |ns (fs:List (At×Value))
 |app (l:Addr)
 |exc (fresh:Bool)
abbrev cj:=Option MO
abbrev Hp:=Addr->cj
abbrev dm:=Value->Hp->Prop
abbrev bA:=Hp->Prop
noncomputable def Hp.set(h:Hp)(a:Addr)(o:MO):Hp:=λb=>if b=a then some o else h b
abbrev aS:=List bq
noncomputable def int(i:Int):Value:=.int i 0
noncomputable def str(s:Str):Value:=.str s 0
def gu(v:Value)(P:Int->Prop):Prop:=match v with|.int i _=>P i|_=>False
def dh(v:Value)(P:Bool->Prop):Prop:=match v with|.bool b=>P b|_=>False
def onStr(v:Value)(P:Str->Prop):Prop:=match v with|.str s _=>P s|_=>False
def bp(v:Value)(P:Addr->Prop):Prop:=match v with|.ref a=>P a|_=>False
def gG(v:Value)(PI:Int->Prop)(PS:Str->Prop)(PR:Addr->Prop):Prop:=match v with|.int i _=>PI i|.str s _=>PS s|.ref a=>PR a|_=>False
noncomputable def nu:Value->Option Int|.int i _=>some i|_=>none
noncomputable def n8:Value->Option Str|.str s _=>some s|_=>none
noncomputable def fQ:Value->dz|.ref a=>some a|_=>none
noncomputable def lI:Value->Bool|.none=>true|_=>false
def sY(vs:ai)(P:hJ):Prop:=match vs with
 |[]=>False|x::r=>match r with
  |[]=>P x|_::_=>False
def OR(vs:ai)(P:Value->hJ):Prop:=match vs with|[]=>False|x::r=>sY r λy=>P x y
def mO(b:Bool)(P Q:Prop):Prop:=match b with|true=>P|false=>Q
inductive Got{α:Type}(o:Option α)(P:α->Prop):Prop
 |mk (x):o=some x->P x->Got o P
inductive Fv where
 |no|num (i:Int)|str (s:Str)
noncomputable def fv:Value->Option Fv|.none=>some .no|.bool b=>some (.num (if b then 1 else 0))|.int i _=>some (.num i)|.str s _=>some (.str s)|_=>none
noncomputable def eqF:Fv->Fv->Bool|.no,.no=>true|.num a,.num b=>a==b|.str a,.str b=>a==b|_,_=>false
set_option genCtorIdx true in
inductive Me where
 |append|extend|pop|insert|get
 |own (n:Str)
 deriving DecidableEq
inductive E where
 |lit (v:Value)
 |loc (i:Nat)
 |glob (v:Value)
 |and (l r:E)
 |or (l r:E)
 |not (e:E)
 |neg (e:E)
 |bin (op:Operator) (l r:E)
 |ite (t a b:E)
 |dict (ks:aF) (vs:E)
 |list (es:E)
 |listS (e s:E)
 |tup (es:E)
 |cmp (l r:E)
 |jz (op:CmpOp) (e r:E)
 |call (f es:E)
 |jU (o:E) (m:Me) (es:E)
 |attr (o:E) (a:At)
 |bound (o:E)
 |idx (o i:E)
 |slice (o lo hi:E)
 |hM (e:E)|gk (e:E)|lg (e:E)
 |comp (iu:E) (tg:aC) (one:Bool) (it cond:E)
 |nil
 |cons (e es:E)
noncomputable def E.isNil:E->Bool|.nil=>true|_=>false
inductive T where
 |name (i:Nat)
 |attr (o:E) (a:At)
 |idx (o i:E)
 |tup (t ts:T)
 |nil
inductive S where
 |expr (e:E)
 |ret (e:E)
 |assign (t:T) (e:E)
 |D7 (t:E) (a b:S)
 |iG (t:E) (b:S)
 |iH (tg:aC) (one:Bool) (it:E) (b:S)
 |f9 (e:E)
 |nJ (b:S)
 |nil
 |cons (s ss:S)
abbrev Spec:=Addr->ai->Hp->(Value->Hp->Prop)->(Hp->Prop)->Prop
inductive Fl where
 |next (ρ:aS)
 |ret (v:Value)
noncomputable def aq:Nat:=2^24
def kG(v w:Value):fB:=(fv v).bind λa=>(fv w).bind λb=>some (eqF a b)
noncomputable def dP:cj->Option ai
 |some (.list xs)|some (.ro xs)|some (.tup xs)=>some xs
 |_=>none
noncomputable def listOf:cj->Option ai
 |some (.list xs)|some (.ro xs)=>some xs
 |_=>none
def pZ:ai->ai->fB
 |[],[]=>some true|x::xs,y::ys=>(kG x y).bind λa=>(pZ xs ys).bind λb=>some (a&&b)
 |_,_=>some false
def uI(h:Hp)(v w:Value):fB:=match fQ v with
 |some a=>match fQ w with
  |some b=>(listOf (h a)).bind λxs=>(listOf (h b)).bind λys=>if xs.length=ys.length then pZ xs ys else some false
  |none=>(dP (h a)).bind λj=>(fv w).bind λj=>some false
 |none=>match fQ w with
  |some b=>(dP (h b)).bind λj=>(fv v).bind λj=>some false|none=>kG v w
def qQ(h:Hp)(x:Value):ai->fB|[]=>some false|y::ys=>(uI h y x).bind λa=>(qQ h x ys).bind λb=>some (a||b)
noncomputable def keyOf(es:cC)(k:Str):bq:=es.lookup k
noncomputable def dictOf:cj->Option cC
 |some (.dict es)|some (.ir es)=>some es
 |_=>none
noncomputable def handed:Value->Bool|.builtin _=>false|_=>true
def Cy(v w:Value)(f:Int->Int->Bool):fB:=(nu v).bind λa=>(nu w).bind λb=>some (f a b)
def VS(v w:Value):fB:=if lI w&&handed v then some (lI v)else none
def Wf(h:Hp)(v:Value)(a:Addr):fB:=match dP (h a)with|some ys=>qQ h v ys|none=>(dictOf (h a)).bind λes=>(n8 v).bind λk=>some (keyOf es k).isSome
def qR(h:Hp)(op:CmpOp)(v w:Value):fB:=match op with|.Eq=>uI h v w|.NotEq=>(uI h v w).map (!·)|.Lt=>Cy v w λa b=>decide (a<b)|.LtE=>Cy v w λa b=>decide (a<=b)|.Gt=>Cy v w λa b=>decide (a>b)|.GtE=>Cy v w λa b=>decide (a>=b)|.Is=>VS v w|.IsNot=>(VS v w).map (!·)|.In=>(fQ w).bind λa=>Wf h v a|.NotIn=>((fQ w).bind λa=>Wf h v a).map (!·)
def dj(o:MO)(h:Hp)(Q:dm):Prop:=∀a,h a=none->Q (.ref a) (h.set a o)
def pd(op:Operator)(a b:Int)(h:Hp)(Q:dm):Prop:=match op with|.Add=>Q (int (a+b)) h|.Sub=>Q (int (a-b)) h|.Mult=>(a.natAbs<2^60\/b.natAbs<2^60)/\Q (int (a*b)) h|.FloorDiv=>b≠0/\b.natAbs<1073741824/\Q (int (a.fdiv b)) h|.Mod=>b≠0/\Q (int (a.fmod b)) h|.Pow=>0<=b/\b<=128/\a.natAbs<2^64/\Q (int (a^b.toNat)) h|_=>False
def AW(op:Operator)(a:Str)(h:Hp)(Q:dm)(b:Str):Prop:=op=.Add/\a.length+b.length<=aq/\Q (str (a++b)) h
inductive Ed(op:Operator)(a:Addr)(h:Hp)(Q:dm)(n:Int):Prop
 |mk (xs):op=.Mult->h a=some (.list xs)->xs.length*n.toNat<=aq->n.natAbs<2^62->dj (.list (List.replicate n.toNat xs).flatten) h Q->Ed op a h Q n
inductive Ee(op:Operator)(a:Addr)(h:Hp)(Q:dm)(b:Addr):Prop
 |mk (xs ys):op=.Add->h a=some (.list xs)->h b=some (.list ys)->(xs++ys).length<=aq->dj (.list (xs++ys)) h Q->Ee op a h Q b
def lJ(op:Operator)(v w:Value)(h:Hp)(Q:dm):Prop:=gG v
 (λa=>gu w λb=>pd op a b h Q) (λa=>onStr w (AW op a h Q)) λa=>gG w (Ed op a h Q) (λj=>False) (Ee op a h Q)
noncomputable def place(n:Nat)(i:Int):Option Nat:=if 0<=i then(if i<n then some i.toNat else none)else(if 0<=i+n then some (i+n).toNat else none)
inductive uJ(s:Str)(h:Hp)(Q:dm)(k:Int):Prop
 |mk (j c):s.cps.size<=aq->place s.cps.size k=some j->s.cps[j]? =some c->Q (str ⟨#[c]⟩) h->uJ s h Q k
inductive yu(a:Addr)(h:Hp)(Q:dm)(k:Int):Prop
 |mk (xs x j):dP (h a)=some xs->place xs.length k=some j->xs[j]? =some x->Q x h->yu a h Q k
inductive yv(a:Addr)(h:Hp)(Q:dm)(k:Str):Prop
 |mk (es x):dictOf (h a)=some es->keyOf es k=some x->Q x h->yv a h Q k
def hA(v i:Value)(h:Hp)(Q:dm):Prop:=gG v (λj=>False) (λs=>gu i (uJ s h Q)) λa=>gG i (yu a h Q) (yv a h Q) λj=>False
def cutAt(n:Nat)(d:Nat)(v:Value):Option Nat:=match lI v with|true=>some d|false=>(nu v).bind λi=>if 0<=i/\i<2^62 then some (min i.toNat n)else none
noncomputable def cut{α:Type}(xs:List α)(lo hi:Nat):List α:=(xs.take hi).drop lo
inductive yy(lo hi:Value)(h:Hp)(Q:dm)(s:Str):Prop
 |mk (l u):cutAt s.cps.size 0 lo=some l->cutAt s.cps.size s.cps.size hi=some u->u<=aq->Q (str ⟨(cut s.cps.toList l u).toArray⟩) h->yy lo hi h Q s
inductive Ef(lo hi:Value)(h:Hp)(Q:dm)(a:Addr):Prop
 |list (xs l u):listOf (h a)=some xs->cutAt xs.length 0 lo=some l->cutAt xs.length xs.length hi=some u->dj (.list (cut xs l u)) h Q->Ef lo hi h Q a
 |tup (xs i):h a=some (.tup xs)->hi=.none->nu lo=some i->0<=i->i<=xs.length->(if i=0 then Q (.ref a) h else dj (.tup (xs.drop i.toNat)) h Q)->Ef lo hi h Q a
def gH(v lo hi:Value)(h:Hp)(Q:dm):Prop:=gG v (λj=>False) (yy lo hi h Q) (Ef lo hi h Q)
noncomputable def iU:bJ:=[87,115,150,407]
inductive yz(n:At)(h:Hp)(Q:dm)(x:Addr):Prop
 |mk (c d fs w):h x=some (.inst c d)->h d=some (.ns fs)->fs.lookup n=some w->handed w=true->Q w h->yz n h Q x
def uK(v:Value)(a:At)(h:Hp)(Q:dm):Prop:=bp v (yz a h Q)
set_option genCtorIdx true in
inductive Kd where
 |fn|cls (init:Addr)|no
structure Tab where
 kind:Addr->Kd
 jU:Addr->Str->dz
def TypeIs(tb:Tab)(h:Hp)(v:Value)(n:String)(b:Bool):Prop:=match v with|.none=>b=false|.bool _=>b=(n=="bool"||n=="int")|.int .. =>b=(n=="int")|.str .. =>b=(n=="str")|.ref a=>((listOf (h a)).isSome=true/\b=(n=="list"))\/((∃xs,h a=some (.tup xs))/\b=(n=="tuple"))\/(tb.kind a=.fn/\b=false)|_=>False
noncomputable def bh:List String:=["int","bool","str","list","tuple"]
def qS(i:Int):Prop:=i.natAbs<2^1900
inductive AX(h:Hp)(Q:dm)(a:Addr):Prop
 |mk (xs):dP (h a)=some xs->Q (int xs.length) h->AX h Q a
def tO(v:Value)(h:Hp)(Q:dm):Prop:=gG v (λj=>False) (λs=>s.cps.size<=aq/\Q (int s.cps.size) h) (AX h Q)
inductive Eg(h:Hp)(Q:dm)(a:Addr):Prop
 |mk (ns:dN):ns≠[]->h a=some (.list (ns.map int))->(∀m∈ns,(∀k∈ns,k<=m)->Q (int m) h)->Eg h Q a
inductive qT(h:Hp)(Q:dm)(a:Addr):Prop|mk (es):h a=some (.dict es)->es.length<64->(∀ss:aF,ss.Perm (es.map λe=>e.1)->dj (.list (ss.map str)) h Q)->qT h Q a
inductive OS(tb:Tab)(v:Value)(h:Hp)(Q:dm)(a:Addr):Prop
 |mk (n m b c):h a=some (.tup [.type n,.type m])->n∈bh->m∈bh->TypeIs tb h v n b->TypeIs tb h v m c->Q (.bool (b||c)) h->OS tb v h Q a
inductive Wg(tb:Tab)(v:Value)(h:Hp)(Q:dm)(n:String):Prop
 |mk (b):n∈bh->TypeIs tb h v n b->Q (.bool b) h->Wg tb v h Q n
def yA(tb:Tab)(v w:Value)(h:Hp)(Q:dm):Prop:=match w with|.type n=>Wg tb v h Q n|.ref a=>OS tb v h Q a|_=>False
inductive kc(tb:Tab)(n:String)(vs:ai)(h:Hp)(Q:dm):Prop
 |len:n="len"->(sY vs λv=>tO v h Q)->kc tb n vs h Q
 |isi:n="isinstance"->(OR vs λv w=>yA tb v w h Q)->kc tb n vs h Q
 |abs:n="abs"->(sY vs λv=>gu v λi=>Q (int i.natAbs) h)->kc tb n vs h Q
 |max:n="max"->(sY vs λv=>bp v (Eg h Q))->kc tb n vs h Q
 |sorted:n="sorted"->(sY vs λv=>bp v (qT h Q))->kc tb n vs h Q
inductive yB(h:Hp)(Q:dm)(a:Addr):Prop
 |mk (xs):listOf (h a)=some xs->dj (.list xs) h Q->yB h Q a
def mz(v:Value)(h:Hp)(Q:dm):Prop:=gG v (λi=>qS i/\Q (str (ofString (toString i))) h) (λs=>Q (str s) h) λj=>False
inductive p0(n:String)(vs:ai)(h:Hp)(Q:dm):Prop
 |int:n="int"->(sY vs λv=>dh v λb=>Q (.int (if b then 1 else 0) 0) h)->p0 n vs h Q
 |str:n="str"->(sY vs λv=>mz v h Q)->p0 n vs h Q
 |list:n="list"->(sY vs λv=>bp v (yB h Q))->p0 n vs h Q
noncomputable def fJ:cj->Option ai|some (.list xs)=>some xs|_=>none
inductive AY(tb:Tab)(n:Str)(h:Hp)(K:Addr->Prop)(a:Addr):Prop|mk (c d fs f):h a=some (.inst c d)->h d=some (.ns fs)->(fs.all λp=>p.1.str !=n)=true->tb.jU c n=some f->K f->AY tb n h K a
def yC(tb:Tab)(v:Value)(m:Me)(h:Hp)(K:Addr->Prop):Prop:=bp v λa=>match m with|.own n=>AY tb n h K a|.get=>Got (dictOf (h a)) λj=>K 0|_=>Got (fJ (h a)) λj=>K 0
inductive ke(a:Addr)(h:Hp)(Q:dm)(x:Value):Prop
 |mk (xs):h a=some (.list xs)->xs.length<aq->Q .none (h.set a (.list (xs++[x])))->ke a h Q x
inductive n9(a:Addr)(h:Hp)(Q:dm)(b:Addr):Prop
 |mk (xs ys):h a=some (.list xs)->h b=some (.list ys)->a≠b->(xs++ys).length<=aq->Q .none (h.set a (.list (xs++ys)))->n9 a h Q b
inductive AZ(a:Addr)(h:Hp)(Q:dm):Prop
 |mk (xs x):h a=some (.list (xs++[x]))->Q x (h.set a (.list xs))->AZ a h Q
inductive uL(a:Addr)(h:Hp)(Q:dm)(i:Int):Prop
 |mk (xs x):h a=some (.list xs)->0<=i->i<xs.length->xs[i.toNat]? =some x->Q x (h.set a (.list (xs.eraseIdx i.toNat)))->uL a h Q i
inductive oa(a:Addr)(h:Hp)(Q:dm)(x:Value)(i:Int):Prop
 |mk (xs):h a=some (.list xs)->xs.length<aq->0<=i->i<=xs.length->Q .none (h.set a (.list (xs.insertIdx i.toNat x)))->oa a h Q x i
inductive qU(a:Addr)(h:Hp)(Q:dm)(d:Value)(k:Str):Prop
 |mk (es):dictOf (h a)=some es->Q ((keyOf es k).getD d) h->qU a h Q d k
def gJ(sp:Spec)(v:Value)(m:Me)(f:Addr)(vs:ai)(h:Hp)(Q:dm)(X:bA):Prop:=bp v λa=>match m with
 |.append=>sY vs (ke a h Q)|.extend=>sY vs λy=>bp y (n9 a h Q)|.pop=>(match vs with
  |[]=>AZ a h Q|y::r=>sY (y::r) λy=>gu y (uL a h Q))
 |.insert=>OR vs λy x=>gu y (oa a h Q x)|.get=>(match vs with
  |[]=>False|y::r=>match r with
   |[]=>onStr y (qU a h Q .none)|d::r=>sY (d::r) λd=>onStr y (qU a h Q d))
 |.own _=>sp f (.ref a::vs) h Q X
inductive dD(sp:Spec)(tb:Tab)(vs:ai)(h:Hp)(Q:dm)(X:bA)(a:Addr):Prop
 |fn:tb.kind a=.fn->sp a vs h Q X->dD sp tb vs h Q X a
 |cls (i):tb.kind a=.cls i->(∀d x,h d=none->h x=none->x≠d->sp i (.ref x::vs) ((h.set d (.ns [])).set x (.inst a d)) (λv h'=>v=.none/\Q (.ref x) h') X)->dD sp tb vs h Q X a
 |app (l):h a=some (.app l)->sY vs (ke l h Q)->dD sp tb vs h Q X a
def pf(sp:Spec)(tb:Tab)(f:Value)(vs:ai)(h:Hp)(Q:dm)(X:bA):Prop:=match f with|.ref a=>dD sp tb vs h Q X a|.builtin n=>kc tb n vs h Q|.type n=>p0 n vs h Q|_=>False
noncomputable def cz(ρ:aS):aC->ai->aS
 |i::is,v::vs=>cz (ρ.set i (some v)) is vs
 |_,_=>ρ
def kH(ρ:aS)(tg:aC)(one:Bool)(v:Value)(h:Hp)(K:aS->Prop):Prop:=match one with|true=>K (cz ρ tg [v])|false=>bp v λa=>Got (dP (h a)) λxs=>xs.length=tg.length/\K (cz ρ tg xs)
inductive Src where
 |seq (a:Addr) (xs:ai)
 |tup (a:Addr) (xs:ai)
 |range (k:Int)
 |enum (a:Addr) (xs:ai)
 |iN (s:Str)
noncomputable def srcOf(a:Addr):cj->Option Src
 |some (.list xs)|some (.ro xs)=>some (.seq a xs)
 |some (.tup xs)=>some (.tup a xs)|_=>none
noncomputable def Src.len:Src->Nat|.seq _ xs=>xs.length|.tup _ xs=>xs.length|.range k=>k.toNat|.enum _ xs=>xs.length|.iN s=>s.cps.size
def Src.here(h:Hp):Src->Prop|.seq a xs=>listOf (h a)=some xs|.tup a xs=>h a=some (.tup xs)|.enum a xs=>listOf (h a)=some xs|_=>True
def Src.take(ρ:aS)(tg:aC)(one:Bool)(h:Hp)(i:Nat)(K:aS->Prop):Src->Prop|.seq _ xs=>Got xs[i]? λx=>kH ρ tg one x h K|.tup _ xs=>Got xs[i]? λx=>kH ρ tg one x h K|.range _=>one=true/\K (cz ρ tg [int i])|.enum _ xs=>Got xs[i]? λx=>one=false/\tg.length=2/\K (cz ρ tg [int i,x])|.iN s=>Got s.cps[i]? λc=>one=false/\tg.length=2/\K (cz ρ tg [int i,str ⟨#[c]⟩])
def lL(o:Option bq)(P:hJ):Prop:=match o with
 |some u=>(match u with
  |some v=>P v|none=>False)
 |none=>False
inductive qV(bD:Src)(ρ:aS)(tg:aC)(one:Bool)(cond iu:aS->Hp->(Value->Hp->Prop)->Prop)(h:Hp)(Q:dm):Prop
 |mk (I:Nat->ai->bA):I 0 [] h->(∀i acc h',I i acc h'->bD.here h'/\acc.length<aq)->
  (∀i acc h',i<bD.len->I i acc h'->bD.take ρ tg one h' i λρ'=>cond ρ' h' λv h2=>dh v λb=>mO b (iu ρ' h2 λw h3=>I (i+1) (acc++[w]) h3) (I (i+1) acc h2))->
  (∀acc h',I bD.len acc h'->dj (.list acc) h' Q)->qV bD ρ tg one cond iu h Q
mutual
def eB(sp:Spec)(tb:Tab)(ρ:aS):E->Hp->(Value->Hp->Prop)->(Hp->Prop)->Prop|.lit v,h,Q,_=>Q v h|.loc i,h,Q,_=>lL ρ[i]? λv=>Q v h|.glob v,h,Q,_=>Q v h|.and l r,h,Q,X=>eB sp tb ρ l h (λv h'=>dh v λb=>mO b (eB sp tb ρ r h' Q X) (Q (.bool false) h')) X|.or l r,h,Q,X=>eB sp tb ρ l h (λv h'=>dh v λb=>mO b (Q (.bool true) h') (eB sp tb ρ r h' Q X)) X|.not e,h,Q,X=>eB sp tb ρ e h (λv h'=>dh v λb=>Q (.bool !b) h') X|.neg e,h,Q,X=>eB sp tb ρ e h (λv h'=>gu v λi=>Q (int (-i)) h') X|.bin op l r,h,Q,X=>eB sp tb ρ l h (λv h1=>eB sp tb ρ r h1 (λw h2=>lJ op v w h2 Q) X) X|.ite t a b,h,Q,X=>eB sp tb ρ t h (λv h'=>dh v λb'=>mO b' (eB sp tb ρ a h' Q X) (eB sp tb ρ b h' Q X)) X|.dict ks vs,h,Q,_=>fP sp tb ρ vs h (λws h'=>dj (.dict (ks.zip ws)) h' Q) λj=>False|.list es,h,Q,X=>fP sp tb ρ es h (λvs h'=>dj (.list vs) h' Q) X|.listS e s,h,Q,X=>eB sp tb ρ e h (λv h1=>eB sp tb ρ s h1 (λw h2=>bp w λa=>Got (dP (h2 a)) λxs=>xs.length<aq/\dj (.list (v::xs)) h2 Q) X) X|.tup es,h,Q,X=>fP sp tb ρ es h (λvs h'=>dj (.tup vs) h' Q) X|.cmp l r,h,Q,X=>eB sp tb ρ l h (λv h'=>Jz sp tb ρ r v h' Q X) X|.call f es,h,Q,X=>eB sp tb ρ f h (λf' h1=>fP sp tb ρ es h1 (λvs h2=>pf sp tb f' vs h2 Q X) X) X|.jU o m es,h,Q,X=>eB sp tb ρ o h (λv h1=>yC tb v m h1 (λf=>fP sp tb ρ es h1 (λvs h2=>gJ sp v m f vs h2 Q X) X)) X|.attr o a,h,Q,X=>eB sp tb ρ o h (λv h'=>uK v a h' Q) X|.bound o,h,Q,X=>eB sp tb ρ o h (λv h'=>bp v λa=>Got (fJ (h' a)) λj=>dj (.app a) h' Q) X|.idx o i,h,Q,X=>eB sp tb ρ o h (λv h1=>eB sp tb ρ i h1 (λw h2=>hA v w h2 Q) X) X|.slice o l u,h,Q,X=>eB sp tb ρ o h (λv h1=>eB sp tb ρ l h1 (λa h2=>eB sp tb ρ u h2 (λb h3=>gH v a b h3 Q) X) X) X|.comp iu tg one it cond,h,Q,X=>wpI sp tb ρ it h (λbD h1=>qV bD ρ tg one (λρ' h' P=>eB sp tb ρ' cond h' P λj=>False) (λρ' h' P=>eB sp tb ρ' iu h' P λj=>False) h1 Q) X|.jz ..,_,_,_|.hM _,_,_,_|.gk _,_,_,_|.lg _,_,_,_|.nil,_,_,_|.cons ..,_,_,_=>False
def fP(sp:Spec)(tb:Tab)(ρ:aS):E->Hp->(ai->Hp->Prop)->(Hp->Prop)->Prop|.nil,h,Q,_=>Q [] h|.cons e es,h,Q,X=>eB sp tb ρ e h (λv h1=>fP sp tb ρ es h1 (λvs h2=>Q (v::vs) h2) X) X|_,_,_,_=>False
def Jz(sp:Spec)(tb:Tab)(ρ:aS):E->Value->Hp->(Value->Hp->Prop)->(Hp->Prop)->Prop|.jz op e r,v,h,Q,X=>eB sp tb ρ e h (λw h'=>Got (qR h' op v w) λb=>mO r.isNil (Q (.bool b) h') (mO b (Jz sp tb ρ r w h' Q X) (Q (.bool false) h'))) X|_,_,_,_,_=>False
def wpI(sp:Spec)(tb:Tab)(ρ:aS):E->Hp->(Src->Hp->Prop)->(Hp->Prop)->Prop|.hM e,h,Q,X=>eB sp tb ρ e h (λv h'=>bp v λa=>Got (srcOf a (h' a)) λbD=>Q bD h') X|.gk e,h,Q,X=>eB sp tb ρ e h (λv h'=>gu v λk=>-(2^60)<k/\k<2^60/\Q (.range k) h') X|.lg e,h,Q,X=>eB sp tb ρ e h (λv h'=>gG v (λj=>False) (λs=>Q (.iN s) h') λa=>Got (listOf (h' a)) λxs=>Q (.enum a xs) h') X|_,_,_,_=>False
end
noncomputable def og(fs:List (At×Value))(a:At)(v:Value):List (At×Value):=if(fs.lookup a).isSome then fs.map (λp=>if p.1=a then(a,v)else p)else fs++[(a,v)]
inductive yD(a:At)(v:Value)(h:Hp)(K:bA)(x:Addr):Prop
 |mk (c d fs):h x=some (.inst c d)->h d=some (.ns fs)->fs.length<1000->K (h.set d (.ns (og fs a v)))->yD a v h K x
inductive gL(v:Value)(h:Hp)(K:bA)(x:Addr)(k:Int):Prop
 |mk (xs):h x=some (.list xs)->0<=k->k<xs.length->K (h.set x (.list (xs.set k.toNat v)))->gL v h K x k
inductive jV(v:Value)(h:Hp)(K:bA)(x:Addr)(k:Str):Prop
 |mk (es):h x=some (.dict es)->es.lookup k=none->es.length<aq->K (h.set x (.dict (es++[(k,v)])))->jV v h K x k
def Qv(sp:Spec)(tb:Tab):T->Value->aS->Hp->(aS->Hp->Prop)->Prop|.name i,v,ρ,h,K=>K (ρ.set i (some v)) h|.attr o a,v,ρ,h,K=>eB sp tb ρ o h (λw h'=>bp w (yD a v h' (K ρ))) λJ=>False|.idx o i,v,ρ,h,K=>eB sp tb ρ o h (λw h1=>eB sp tb ρ i h1 (λj h2=>bp w λx=>gG j (gL v h2 (K ρ) x) (jV v h2 (K ρ) x) λJ=>False) λJ=>False) λJ=>False|.tup ..,_,_,_,_|.nil,_,_,_,_=>False
def sZ(sp:Spec)(tb:Tab):T->ai->aS->Hp->(aS->Hp->Prop)->Prop
 |.nil,[],ρ,h,K=>K ρ h|.tup t ts,v::vs,ρ,h,K=>Qv sp tb t v ρ h (λρ' h'=>sZ sp tb ts vs ρ' h' K)
 |_,_,_,_,_=>False
def eZ(f:Fl)(next:aS->Prop)(ret:hJ):Prop:=match f with
 |.next ρ=>next ρ
 |.ret v=>ret v
inductive A0(ρ:aS)(h:Hp)(Wh:aS->Hp->(Value->Hp->Prop)->Prop)(body:aS->Hp->(Fl->Hp->Prop)->Prop)(Q:Fl->bA):Prop
 |mk (I:Nat->aS->bA) (n):I n ρ h->(∀n ρ' h',I n ρ' h'->Wh ρ' h' λv h1=>dh v λb=>mO b
   (body ρ' h1 λf h2=>eZ f (λρ2=>∃m,m<n/\I m ρ2 h2) λv=>Q (.ret v) h2) (Q (.next ρ') h1))->A0 ρ h Wh body Q
inductive qW(bD:Src)(ρ:aS)(tg:aC)(one:Bool)(body:aS->Hp->(Fl->Hp->Prop)->Prop)(h:Hp)(Q:Fl->bA):Prop
 |mk (I:Nat->aS->bA):I 0 ρ h->(∀i ρ' h',I i ρ' h'->bD.here h')->
  (∀i ρ' h',i<bD.len->I i ρ' h'->bD.take ρ' tg one h' i λρ2=>body ρ2 h' λf h2=>eZ f (λρ3=>I (i+1) ρ3 h2) λv=>Q (.ret v) h2)->
  (∀ρ' h',I bD.len ρ' h'->Q (.next ρ') h')->qW bD ρ tg one body h Q
noncomputable def T.len:T->Nat|.tup _ ts=>ts.len+1|_=>0
noncomputable def T.isTup:T->Bool
 |.tup .. |.nil=>true
 |_=>false
mutual
def wpS(sp:Spec)(tb:Tab):S->aS->Hp->(Fl->Hp->Prop)->(Hp->Prop)->Prop|.expr e,ρ,h,Q,X=>eB sp tb ρ e h (λj h'=>Q (.next ρ) h') X|.ret e,ρ,h,Q,X=>eB sp tb ρ e h (λv h'=>Q (.ret v) h') X|.assign t e,ρ,h,Q,X=>eB sp tb ρ e h (λv h'=>mO t.isTup (bp v λa=>Got (dP (h' a)) λxs=>xs.length=t.len/\sZ sp tb t xs ρ h' λρ' iV=>Q (.next ρ') iV) (Qv sp tb t v ρ h' λρ' iV=>Q (.next ρ') iV)) X|.D7 t a b,ρ,h,Q,X=>eB sp tb ρ t h (λv h'=>dh v λb'=>mO b' (bH sp tb a ρ h' Q X) (bH sp tb b ρ h' Q X)) X|.iG t b,ρ,h,Q,X=>A0 ρ h (λρ' h' P=>eB sp tb ρ' t h' P X) (λρ' h' P=>bH sp tb b ρ' h' P X) Q|.iH tg one it b,ρ,h,Q,X=>wpI sp tb ρ it h (λbD h1=>qW bD ρ tg one (λρ' h' P=>bH sp tb b ρ' h' P X) h1 Q) X|.f9 e,ρ,h,_,X=>eB sp tb ρ e h (λv h'=>onStr v λj=>X h') λj=>False|.nJ b,ρ,h,Q,_=>bH sp tb b ρ h Q (λh'=>Q (.ret .none) h')|.nil,_,_,_,_|.cons ..,_,_,_,_=>False
def bH(sp:Spec)(tb:Tab):S->aS->Hp->(Fl->Hp->Prop)->(Hp->Prop)->Prop|.nil,ρ,h,Q,_=>Q (.next ρ) h|.cons s ss,ρ,h,Q,X=>wpS sp tb s ρ h (λf h'=>eZ f (λρ'=>bH sp tb ss ρ' h' Q X) λv=>Q (.ret v) h') X|_,_,_,_,_=>False
end
structure Fn where
 params:Nat
 fR:ai
 size:Nat
 body:S
noncomputable def args(F:Fn)(vs:ai):aS:=(vs++F.fR.drop (vs.length+F.fR.length-F.params)).map some++List.replicate (F.size-F.params) none
inductive Wi(du:Addr->Option Fn)(run:S->aS->Hp->(Fl->Hp->Prop)->(Hp->Prop)->Prop)(f:Addr)(vs:ai)(h:Hp)(Q:dm)(X:bA):Prop|mk (F):du f=some F->vs.length<=F.params->F.params<=vs.length+F.fR.length->run F.body (args F vs) h (λfl h'=>eZ fl (λj=>Q .none h') λv=>Q v h') X->Wi du run f vs h Q X
def bt(du:Addr->Option Fn)(tb:Tab):Nat->Spec|0=>λj j j j j=>False|n+1=>Wi du (bH (bt du tb n) tb)
abbrev lM:=Fl->Hp->Prop
abbrev qC:=aS->Hp->Prop
abbrev gp:=Value->bW
abbrev Jo:=Unit->bW
abbrev A1:=Result->bW
noncomputable def pg(l:List E):E:=match l with|[]=>.nil|a::l=>.cons a (pg l)
noncomputable def ay(s:String):Str:=ofString s
def bX(s:String):Value:=str (ofString s)
def aj(i:Int):E:=.lit (int i)
def ao(s:String):E:=.lit (bX s)
def iw(f:E)(l:List E):E:=.call f (pg l)
def aL(a:Nat)(l:List E):E:=iw (.glob (.ref a)) l
def c7(s:String)(l:List E):E:=iw (.glob (.builtin s)) l
noncomputable def aD(op:CmpOp)(a b:E):E:=.cmp a (.jz op b .nil)
def aY(l:List E):E:=.tup (pg l)
def bG(l:List E):E:=.list (pg l)
def gC(a:E)(m:Me)(l:List E):E:=.jU a m (pg l)
def jW(a:E)(s:String)(l:List E):E:=.jU a (.own (ay s)) (pg l)
def bY(a:E)(i:Int):E:=.idx a (aj i)
noncomputable def bE(n:Nat)(a:At):E:=.attr (.loc n) a
noncomputable def bS(l:List S):S:=match l with|[]=>.nil|a::l=>.cons a (bS l)
noncomputable def Wj(l:aC):T:=match l with|[]=>.nil|a::l=>.tup (.name a) (Wj l)
def ba(c:E)(a b:List S):S:=.D7 c (bS a) (bS b)
noncomputable def d3(n:Nat)(e:E):S:=.assign (.name n) e
def jc(l:aC)(e:E):S:=.assign (Wj l) e
def bI:E:=.loc 0
def cZ:E:=.loc 1
def dZ:E:=.loc 2
def fj:E:=.loc 3
def fU:E:=.loc 4
def iO:E:=.loc 5
def tQ:E:=.loc 6
def tS:E:=.loc 7
def OT:E:=.loc 8
def Wk:E:=.loc 9
def yE:E:=.loc 10
def Eh:E:=.loc 11
def Wl:E:=.loc 12
def Qw:E:=.loc 13
def JA:E:=.loc 14
def JB:E:=.loc 15
def Qx:E:=.loc 16
def Wm:E:=.loc 17
def abn:E:=.loc 18
def abo:E:=.loc 19
def abp:E:=.loc 20
def yF:S:=bS [.assign (.attr bI .op) cZ,.assign (.attr bI .a) dZ,.assign (.attr bI .b) fj,.assign (.attr bI .c) fU,.assign (.attr bI .line) iO]
def qX:Fn:=⟨6,[Value.none,Value.none,Value.none,(int 0)],6,yF⟩
def uM:S:=bS [.assign (.attr bI .sort) cZ,.assign (.attr bI .first) dZ,.assign (.attr bI .last) fj,.assign (.attr bI .target) fU,.assign (.attr bI .depth) iO]
def oh:Fn:=⟨6,[],6,uM⟩
def qY:S:=bS [.ret (.cmp (bE 0 .first) (.jz .LtE cZ (.jz .Lt (bE 0 .last) .nil)))]
def qZ:Fn:=⟨2,[],2,qY⟩
def wk:S:=bS [.assign (.attr bI .kind) cZ,.assign (.attr bI .name) dZ,.assign (.attr bI .params) fj,.assign (.attr bI .slots) fU,.assign (.attr bI .rows) iO,.assign (.attr bI .hY) tQ,.assign (.attr bI .children) tS,.assign (.attr bI .starts) OT,.assign (.attr bI .number) (.lit .none)]
def p5:Fn:=⟨9,[],9,wk⟩
def JC:S:=bS [.ret (.ite (aD .Eq bI (.neg (aj 1))) (aj 1) bI)]
def JD:Fn:=⟨1,[],1,JC⟩
def Ei:S:=bS [.ret (.ite (aD .Eq bI (ao "pass")) (aj 1) (aj 0))]
def Ej:Fn:=⟨1,[],1,Ei⟩
def s9:S:=bS [.ret (aY [.bin .Add (bE 0 .a) (aj 1),.bin .Add (bE 0 .a) (aj 2)])]
def ta:Fn:=⟨1,[],1,s9⟩
def tc:S:=bS [.ret (aY [bE 0 .a,aj 1])]
def td:Fn:=⟨1,[],1,tc⟩
def q5:S:=bS [.ret (aY [.bin .Mult (aj 2) (bE 0 .a),aj 1])]
def q6:Fn:=⟨1,[],1,q5⟩
def te:S:=bS [.ret (aY [.bin .Add (.bin .Add (aj 1) (aL 161 [bE 0 .b])) (aL 168 [bY (bE 0 .c) 1]),aj 1])]
def tf:Fn:=⟨1,[],1,te⟩
def q9:S:=bS [.ret (aY [.bin .Add (aL 161 [bE 0 .a]) (aL 168 [bE 0 .b]),aj 1])]
def rf:Fn:=⟨1,[],1,q9⟩
def qp:S:=bS [.ret (aY [aL 168 [bE 0 .a],aj 1])]
def qq:Fn:=⟨1,[],1,qp⟩
def rg:S:=bS [.ret (aY [aL 161 [bE 0 .a],aj 1])]
def rh:Fn:=⟨1,[],1,rg⟩
def ri:S:=bS [.ret (aY [.ite (bE 0 .c) (aj 1) (aj 0),aj 1])]
def rj:Fn:=⟨1,[],1,ri⟩
def ph:S:=bS [.ret (aY [.ite (aD .In (bE 0 .a) (.glob (.ref 61))) (aj 1) (aj 0),aj 1])]
def pn:Fn:=⟨1,[],1,ph⟩
def oi:S:=bS [.ret (aY [aj 1,.bin .Add (.bin .Add (bE 0 .a) (.ite (aD .Is (bE 0 .b) (.lit .none)) (aj 0) (aj 1))) (bE 0 .c)])]
def oj:Fn:=⟨1,[],1,oi⟩
def wo:S:=bS [d3 1 (.idx (.glob (.ref 239)) (bE 0 .op)),.ret (.ite (c7 "isinstance" [cZ,.glob (.type "tuple")]) cZ (iw cZ [bI]))]
def wq:Fn:=⟨1,[],2,wo⟩
def yG:S:=bS [.ret (.and (c7 "isinstance" [bI,.glob (.type "int")]) (.not (c7 "isinstance" [bI,.glob (.type "bool")])))]
def yH:Fn:=⟨1,[],1,yG⟩
def yI:S:=bS [ba (.or (aD .Is bI (.lit .none)) (aD .Eq bI (ao "pass"))) [.ret (.lit (.bool true))] [],.ret (.and (c7 "isinstance" [bI,.glob (.type "tuple")]) (.and (aD .Eq (c7 "len" [bI]) (aj 2)) (.and (aD .Eq (bY bI 0) (ao "child")) (aL 308 [bY bI 1]))))]
def yJ:Fn:=⟨1,[],1,yI⟩
def Cz:S:=bS [ba (aD .Eq (bE 0 .op) (ao "out")) [.ret (aD .In cZ (.glob (.ref 58)))] [],ba (aD .Eq (bE 0 .op) (ao "defined")) [.ret (aD .In cZ (.glob (.ref 62)))] [],.ret (.and (c7 "isinstance" [cZ,.glob (.type "tuple")]) (.and (aD .Eq (c7 "len" [cZ]) (aj 2)) (.and (aD .In (bY cZ 0) (.glob (.ref 57))) (aL 315 [bY cZ 1]))))]
def CA:Fn:=⟨2,[],2,Cz⟩
def uN:S:=bS [ba (aD .In cZ (aY [ao "n",ao "t"])) [.ret (c7 "isinstance" [dZ,.glob (.type "str")])] [],ba (aD .In cZ (aY [ao "c",ao "p"])) [.ret (.and (aL 308 [dZ]) (aD .GtE dZ (aj 0)))] [],ba (aD .Eq cZ (ao "a")) [.ret (.and (aL 308 [dZ]) (aD .GtE dZ (.neg (aj 1))))] [],ba (aD .Eq cZ (ao "i")) [.ret (aL 308 [dZ])] [],ba (aD .Eq cZ (ao "f")) [.ret (c7 "isinstance" [dZ,.glob (.type "bool")])] [],ba (aD .Eq cZ (ao "r")) [.ret (.or (aD .Is dZ (.lit .none)) (aD .Eq dZ (aj 1)))] [],ba (aD .Eq cZ (ao "k")) [.ret (c7 "isinstance" [dZ,aY [.glob (.type "list"),.glob (.type "tuple")]])] [],ba (aD .Eq cZ (ao "b")) [.ret (aL 315 [dZ])] [],.ret (.ite (aD .Eq cZ (ao "s")) (aL 322 [bI,dZ]) (.lit (.bool true)))]
def uO:Fn:=⟨3,[],3,uN⟩
def yK:S:=bS [ba (aD .Eq (bE 0 .op) (ao "lambda")) [.ret (aY [bE 0 .a,ao "block"])] [],ba (aD .In (bE 0 .op) (aY [ao "def",ao "sdef"])) [.ret (aY [bE 0 .b,ao "method"])] [],ba (aD .In (bE 0 .op) (aY [ao "class",ao "module"])) [.ret (aY [bE 0 .b,ao "class"])] [],ba (aD .Eq (bE 0 .op) (ao "sclass")) [.ret (aY [bE 0 .a,ao "class"])] [],d3 1 (.lit .none),ba (aD .Eq (bE 0 .op) (ao "send")) [d3 1 (bY (bE 0 .c) 1)] [ba (aD .Eq (bE 0 .op) (ao "super")) [d3 1 (bE 0 .b)] [ba (aD .Eq (bE 0 .op) (ao "zsuper")) [d3 1 (bE 0 .a)] []]],.ret (.ite (c7 "isinstance" [cZ,.glob (.type "tuple")]) (aY [bY cZ 1,ao "block"]) (.lit .none))]
def yL:Fn:=⟨1,[],2,yK⟩
def lp:S:=bS [.assign (.attr bI .code) cZ,.assign (.attr bI .seen) (.ite (aD .Eq (bE 1 .kind) (ao "block")) (.listS cZ dZ) (bG [cZ])),.assign (.attr bI .gF) (.bin .Mult (bG [.lit .none]) (c7 "len" [bE 1 .rows])),.assign (.attr bI .waiting) (bG [])]
def lq:Fn:=⟨3,[],3,lp⟩
def qr:S:=bS [.f9 (.bin .Add (.bin .Add (.bin .Add (.bin .Add (iw (.glob (.type "str")) [.attr (bE 0 .code) .name]) (ao " row ")) (iw (.glob (.type "str")) [cZ])) (ao ": ")) dZ)]
def qs:Fn:=⟨3,[],3,qr⟩
def cQ:S:=bS [ba (.not (.cmp (aj 0) (.jz .LtE cZ (.jz .Lt (c7 "len" [.attr (bE 0 .code) .rows]) .nil)))) [.expr (jW bI "fail" [fj,ao "goes on beyond the rows"])] [],d3 4 (.idx (bE 0 .gF) cZ),ba (aD .Is fU (.lit .none)) [.assign (.idx (bE 0 .gF) cZ) dZ,.expr (gC (bE 0 .waiting) .append [cZ])] [ba (aD .NotEq fU dZ) [.expr (jW bI "fail" [cZ,.bin .Add (.bin .Add (.bin .Add (ao "a stack of ") (iw (.glob (.type "str")) [fU])) (ao " and of ")) (iw (.glob (.type "str")) [dZ])])] []]]
def pq:Fn:=⟨4,[],5,cQ⟩
def iy:S:=bS [ba (aD .NotIn (bE 2 .op) (.glob (.ref 239))) [.expr (jW bI "fail" [cZ,ao "no such op"])] [],jc [3,4] (aY [gC (.glob (.ref 299)) .get [bE 2 .op,ao ""],aY [bE 2 .a,bE 2 .b,bE 2 .c]]),.iH [5,6] false (.lg fj) (bS [ba (.not (aL 329 [dZ,tQ,.idx fU iO])) [.expr (jW bI "fail" [cZ,.bin .Add (.bin .Add (bE 2 .op) (ao ": operand ")) (iw (.glob (.type "str")) [iO])])] []]),ba (aD .NotEq (.comp tS [7] true (.hM (.slice fU (c7 "len" [fj]) (.lit .none))) (aD .IsNot tS (.lit .none))) (bG [])) [.expr (jW bI "fail" [cZ,.bin .Add (bE 2 .op) (ao ": too many operands")])] [],ba (.and (aD .In (bE 2 .op) (.glob (.ref 59))) (aD .GtE (bE 2 .a) (c7 "len" [.attr (bE 0 .code) .rows]))) [.expr (jW bI "fail" [cZ,ao "jumps beyond the rows"])] []]
def lN:Fn:=⟨3,[],8,iy⟩
def lA:S:=bS [ba (.or (aD .GtE (bE 2 .a) (c7 "len" [bE 0 .seen])) (aD .GtE (bE 2 .b) (c7 "len" [.attr (.idx (bE 0 .seen) (bE 2 .a)) .slots]))) [.expr (jW bI "fail" [cZ,ao "no such slot"])] []]
def lB:Fn:=⟨3,[],3,lA⟩
def lD:S:=bS [d3 3 (aL 336 [dZ]),ba (aD .IsNot fj (.lit .none)) [jc [4,5] fj,ba (.or (.not (.cmp (aj 0) (.jz .LtE fU (.jz .Lt (c7 "len" [.attr (bE 0 .code) .children]) .nil)))) (aD .NotEq (.attr (.idx (.attr (bE 0 .code) .children) fU) .kind) iO)) [.expr (jW bI "fail" [cZ,ao "no such child"])] []] []]
def lE:Fn:=⟨3,[],6,lD⟩
def aK:S:=bS [jc [2,3] (aY [.idx (.attr (bE 0 .code) .rows) cZ,.idx (bE 0 .gF) cZ]),jc [4,5] (aL 298 [dZ]),ba (aD .Lt fj fU) [.expr (jW bI "fail" [cZ,ao "the stack is too low"])] [],ba (aD .In (bE 2 .op) (.glob (.ref 59))) [.expr (jW bI "reach" [bE 2 .a,.bin .Add (.bin .Sub fj fU) iO,cZ])] [],ba (aD .NotIn (bE 2 .op) (.glob (.ref 60))) [.expr (jW bI "reach" [.bin .Add cZ (aj 1),.bin .Add (.bin .Sub fj fU) iO,cZ])] [],.iH [6] true (.hM (.attr (bE 0 .code) .hY)) (bS [ba (jW tQ "covers" [cZ]) [ba (aD .Lt fj (bE 6 .depth)) [.expr (jW bI "fail" [cZ,ao "the stack is lower than that of a catch"])] [],.expr (jW bI "reach" [bE 6 .target,.bin .Add (bE 6 .depth) (aj 1),cZ])] []])]
def qt:Fn:=⟨2,[],7,aK⟩
def gv:S:=bS [.iH [1] true (.hM (.attr (bE 0 .code) .hY)) (bS [d3 2 (c7 "len" [.attr (bE 0 .code) .rows]),ba (.or (aD .NotIn (bE 1 .sort) (.glob (.ref 56))) (.not (.cmp (aj 0) (.jz .LtE (bE 1 .first) (.jz .Lt (bE 1 .last) (.jz .LtE dZ .nil)))))) [.f9 (.bin .Add (iw (.glob (.type "str")) [.attr (bE 0 .code) .name]) (ao ": what a catch covers"))] [],ba (.or (.not (.cmp (aj 0) (.jz .LtE (bE 1 .target) (.jz .Lt dZ .nil)))) (aD .Lt (bE 1 .depth) (aj 0))) [.f9 (.bin .Add (iw (.glob (.type "str")) [.attr (bE 0 .code) .name]) (ao ": where a catch goes on"))] []])]
def kg:Fn:=⟨1,[],3,gv⟩
def aM:S:=bS [ba (.or (aD .NotIn (.attr (bE 0 .code) .kind) (.glob (.ref 55))) (aD .Eq (c7 "len" [.attr (bE 0 .code) .starts]) (aj 0))) [.f9 (ao "kind or starts of a code")] [],.iH [1,2] false (.lg (.attr (bE 0 .code) .rows)) (bS [.expr (jW bI "need_form" [cZ,dZ]),ba (aD .In (bE 2 .op) (aY [ao "getl",ao "setl"])) [.expr (jW bI "need_slots" [cZ,dZ])] [],.expr (jW bI "need_child" [cZ,dZ])]),.expr (jW bI "need_catches" []),.iH [3] true (.hM (.attr (bE 0 .code) .starts)) (bS [.expr (jW bI "reach" [fj,aj 0,fj])]),.iG (aD .Gt (c7 "len" [bE 0 .waiting]) (aj 0)) (bS [.expr (jW bI "step" [gC (bE 0 .waiting) .pop []])])]
def rz:Fn:=⟨1,[],4,aM⟩
def dU:S:=bS [d3 2 (aL 407 [bI,cZ]),.expr (jW dZ "run" []),.iH [3] true (.hM (bE 0 .children)) (bS [.expr (aL 420 [fj,.ite (aD .Eq (bE 3 .kind) (ao "block")) (bE 2 .seen) (aY [])])]),.ret (bE 2 .gF)]
def uP:Fn:=⟨2,[(.ref 412)],4,dU⟩
def CB:S:=bS [.ret (.dict [ay "push",ay "text",ay "pop",ay "dup",ay "dup2",ay "swap",ay "self",ay "getl",ay "setl",ay "geti",ay "seti",ay "getg",ay "setg",ay "getc",ay "getcin",ay "setc",ay "append",ay "joinlists",ay "spread",ay "range",ay "totext",ay "lambda",ay "def",ay "sdef",ay "module",ay "sclass",ay "alias",ay "undef",ay "leave",ay "out",ay "again",ay "caught",ay "setcaught",ay "respond",ay "islist",ay "istable",ay "listfits",ay "listat",ay "listpart",ay "tablehas",ay "tableat",ay "tablerest",ay "tableonly",ay "nomatch",ay "blockgiven",ay "jump",ay "jumpif",ay "jumpunless",ay "jumpnil",ay "list",ay "texts",ay "table",ay "tuck",ay "send",ay "super",ay "zsuper",ay "yield",ay "class",ay "defined",ay "spreadto"] (pg [aY [ao "v",aj 0,aj 1],aY [ao "t",aj 0,aj 1],aY [ao "",aj 1,aj 0],aY [ao "",aj 1,aj 2],aY [ao "",aj 2,aj 4],aY [ao "",aj 2,aj 2],aY [ao "",aj 0,aj 1],aY [ao "cc",aj 0,aj 1],aY [ao "cc",aj 1,aj 0],aY [ao "t",aj 0,aj 1],aY [ao "t",aj 1,aj 0],aY [ao "t",aj 0,aj 1],aY [ao "t",aj 1,aj 0],aY [ao "t",aj 0,aj 1],aY [ao "t",aj 1,aj 1],aY [ao "t",aj 1,aj 0],aY [ao "",aj 2,aj 1],aY [ao "",aj 2,aj 1],aY [ao "",aj 1,aj 1],aY [ao "f",aj 2,aj 1],aY [ao "",aj 1,aj 1],aY [ao "c",aj 0,aj 1],aY [ao "tc",aj 0,aj 1],aY [ao "tc",aj 1,aj 1],aY [ao "tc",aj 0,aj 1],aY [ao "c",aj 1,aj 1],aY [ao "tt",aj 0,aj 1],aY [ao "t",aj 0,aj 1],aY [ao "",aj 1,aj 0],aY [ao "o",aj 1,aj 0],aY [ao "",aj 1,aj 0],aY [ao "",aj 1,aj 1],aY [ao "",aj 1,aj 0],aY [ao "t",aj 1,aj 1],aY [ao "",aj 1,aj 1],aY [ao "",aj 1,aj 1],aY [ao "cf",aj 1,aj 1],aY [ao "i",aj 1,aj 1],aY [ao "cc",aj 1,aj 1],aY [ao "v",aj 1,aj 1],aY [ao "v",aj 1,aj 1],aY [ao "k",aj 1,aj 1],aY [ao "k",aj 1,aj 1],aY [ao "",aj 1,aj 0],aY [ao "",aj 0,aj 1],aY [ao "p",aj 0,aj 0],aY [ao "p",aj 1,aj 0],aY [ao "p",aj 1,aj 0],aY [ao "p",aj 1,aj 1],aY [ao "c",aj 0,aj 1],aY [ao "c",aj 0,aj 1],aY [ao "c",aj 0,aj 1],aY [ao "c",aj 1,aj 2],aY [ao "tas",aj 1,aj 1],aY [ao "ab",aj 0,aj 1],aY [ao "b",aj 0,aj 1],aY [ao "a",aj 0,aj 1],aY [ao "tcf",aj 0,aj 1],aY [ao "dv",aj 0,aj 1],aY [ao "crc",aj 1,aj 0]]))]
def pz:Fn:=⟨0,[],0,CB⟩
def jA:S:=bS [jc [2,3] (aY [.bin .Mod (c7 "max" [.bin .Add (bG [aj 0]) (.comp (.bin .Sub fU (.bin .Pow (aj 10) (aj 18))) [4] true (.hM (.slice bI (.lit .none) (aj 1))) (.lit (.bool true)))]) (.bin .Pow (aj 10) (aj 90)),aj 33023]),.iH [1] true (.hM (.slice bI (.lit .none) (aj 24))) (bS [d3 3 (.bin .Mod (.bin .Add (.bin .Mult fj (aj 48271)) cZ) (aj 2147483629))]),.ret (bG [dZ,fj,aj 0,.or (aD .Eq bI (bG [])) (.and (aD .Eq (c7 "len" [bI]) (aj 1)) (aD .Lt (c7 "abs" [bY bI 0]) (aj 10)))])]
def A2:Fn:=⟨1,[],5,jA⟩
def Ek:S:=bS [ba (aD .Gt (bY bI 0) (aj 0)) [d3 2 (.bin .Mod (bY bI 0) cZ),.assign (.idx bI (aj 0)) (.bin .FloorDiv (bY bI 0) cZ),.ret dZ] [],.assign (.idx bI (aj 2)) (.bin .Add (bY bI 2) (aj 1)),d3 3 (.bin .Mod (.bin .Pow (.bin .Add (.bin .Add (bY bI 1) (.bin .Mult (aj 40169) (bY bI 2))) (aj 7)) (aj 5)) (aj 2147483647)),d3 3 (.bin .Mod (.bin .Pow (.bin .Add fj (.bin .Mult (aj 93001) (bY bI 2))) (aj 3)) (aj 2147483587)),.ret (.bin .Mod (.bin .FloorDiv fj (aj 16)) cZ)]
def wt:Fn:=⟨2,[],4,Ek⟩
def yM:S:=bS [jc [4,5] (.slice (.idx (aL 427 []) bI) (aj 1) (.lit .none)),ba (aD .In bI (bG [ao "list",ao "texts"])) [d3 4 cZ] [],ba (aD .Eq bI (ao "table")) [d3 4 (.bin .Mult (aj 2) cZ)] [],ba (aD .Eq bI (ao "tuck")) [jc [4,5] (aY [.bin .Add fU cZ,.bin .Add iO cZ])] [],ba (aD .In bI (bG [ao "send",ao "super",ao "yield"])) [d3 6 (.ite (aD .Eq bI (ao "send")) dZ cZ),d3 4 (.bin .Add fU (.ite (aD .Eq tQ (.neg (aj 1))) (aj 1) tQ))] [],d3 7 (gC (.dict [ay "send",ay "super",ay "zsuper"] (pg [fj,dZ,cZ])) .get [bI]),ba (aD .Eq bI (ao "send")) [d3 7 (bY fj 1)] [],ba (aD .Eq bI (ao "class")) [d3 4 (iw (.glob (.type "int")) [fj])] [],ba (aD .Eq bI (ao "defined")) [d3 4 (iw (.glob (.type "int")) [aD .In cZ (bG [ao "method_of",ao "const_of"])])] [],ba (aD .Eq bI (ao "spreadto")) [d3 5 (.bin .Add (.bin .Add cZ (iw (.glob (.type "int")) [aD .IsNot dZ (.lit .none)])) fj)] [],.ret (aY [.bin .Add fU (iw (.glob (.type "int")) [aD .Eq tS (ao "pass")]),iO])]
def yN:Fn:=⟨4,[],8,yM⟩
def JE:S:=bS [.ret (bG [bI,cZ,dZ,fj])]
def JF:Fn:=⟨4,[Value.none,Value.none,Value.none],4,JE⟩
def CC:S:=bS [d3 2 (.ite (aD .Eq cZ (ao "block")) (aj 1) (aj 0)),d3 3 (bG [aL 454 [ao "getl",dZ,aL 439 [bI,aj 2]],aL 454 [ao "setl",aj 0,aj 1],aL 454 [ao "getl",aj 0,aj 0],aL 454 [ao "leave"]]),.ret (bG [cZ,aj 2,fj,bG [],bG [],bG [aj 0]])]
def CD:Fn:=⟨2,[],4,CC⟩
def rA:S:=bS [.expr (gC (bY cZ 2) .append [aL 461 [bI,dZ]]),.ret (.bin .Sub (c7 "len" [bY cZ 2]) (aj 1))]
def rB:Fn:=⟨3,[],3,rA⟩
def wu:S:=bS [d3 4 (gC (.dict [ay "lambda",ay "def",ay "sdef",ay "class",ay "module",ay "sclass"] (pg [ao "block",ao "method",ao "method",ao "class",ao "class",ao "class"])) .get [fj]),ba (.and (aD .Eq dZ (ao "c")) (aD .IsNot fU (.lit .none))) [.ret (aL 468 [bI,cZ,fU])] [],ba (aD .Eq dZ (ao "c")) [.ret (aL 439 [bI,.ite (aD .In fj (bG [ao "getl",ao "setl"])) (aj 2) (aj 3)])] [],ba (aD .Eq dZ (ao "b")) [.ret (.idx (bG [.lit .none,ao "pass",aY [ao "child",aj 0]]) (aL 439 [bI,aj 2]))] [],ba (aD .Eq dZ (ao "s")) [.ret (aY [.idx (bG [ao "call",ao "self",ao "var"]) (aL 439 [bI,aj 3]),.idx (bG [.lit .none,ao "pass"]) (aL 439 [bI,aj 2])])] [],ba (aD .Eq dZ (ao "o")) [.ret (.idx (bG [ao "break",ao "return"]) (aL 439 [bI,aj 2]))] [],ba (aD .Eq dZ (ao "d")) [.ret (.idx (bG [ao "ivar",ao "gvar",ao "const",ao "const_of",ao "super",ao "yield",ao "method",ao "method_of"]) (aL 439 [bI,aj 8]))] [],d3 5 (.dict [ay "v",ay "t",ay "f",ay "i",ay "k",ay "a"] (pg [aj 3,ao "x",aD .Eq (aL 439 [bI,aj 2]) (aj 0),.bin .Sub (aL 439 [bI,aj 5]) (aj 2),bG [ao "k"],.bin .Sub (aL 439 [bI,aj 4]) (aj 1)])),.assign (.idx iO (ao "r")) (.idx (bG [.lit .none,aj 1]) (aL 439 [bI,aj 2])),.ret (.idx iO dZ)]
def wx:Fn:=⟨4,[],6,wu⟩
def jB:S:=bS [d3 2 (c7 "sorted" [aL 427 []]),jc [3,4] (aY [.idx dZ (aL 439 [bI,c7 "len" [dZ]]),bY cZ 0]),ba (aD .Eq (.slice fj (.lit .none) (aj 4)) (ao "jump")) [.expr (gC fU .extend [bG [aL 454 [ao "push",aj 1],aL 454 [fj,.bin .Add (c7 "len" [fU]) (aj 2)]]]),.expr (gC fU .extend [.bin .Mult (bG [aL 454 [ao "pop"]]) (iw (.glob (.type "int")) [aD .In fj (bG [ao "jump",ao "jumpnil"])])]),.ret (.lit .none)] [],d3 5 (aL 454 [fj]),.iH [6,7] false (.lg (bY (.idx (aL 427 []) fj) 0)) (bS [.assign (.idx iO (.bin .Add (aj 1) tQ)) (aL 475 [bI,cZ,tS,fj])]),ba (.or (aD .Eq fj (ao "getl")) (aD .Eq fj (ao "setl"))) [.assign (.idx iO (aj 1)) (aj 0)] [],jc [8,9] (aL 446 [fj,bY iO 1,bY iO 2,bY iO 3]),d3 10 (aD .In fj (bG [ao "leave",ao "out",ao "again",ao "nomatch"])),ba yE [.expr (gC fU .extend [bG [aL 454 [ao "getl",aj 0,aj 0],aL 454 [ao "jumpif",.bin .Add (.bin .Add (c7 "len" [fU]) (aj 3)) OT]]])] [],.expr (gC fU .extend [.bin .Add (.bin .Add (.comp (aL 454 [ao "push",Eh]) [11] true (.gk OT) (.lit (.bool true))) (bG [iO])) (.comp (aL 454 [ao "pop"]) [12] true (.gk Wk) (.lit (.bool true)))])]
def oq:Fn:=⟨2,[],13,jB⟩
def jd:S:=bS [d3 3 (.bound (bY cZ 0)),ba (aD .Eq dZ (aj 0)) [.expr (iw fj [aL 454 [ao "push",aL 439 [bI,aj 9]]]),.expr (iw fj [aL 454 [ao "setl",aj 0,aL 439 [bI,aj 2]]])] [],ba (aD .Eq dZ (aj 1)) [d3 4 (.idx (bG [.lit .none,aj 1]) (aL 439 [bI,aj 2])),.iH [5] true (.hM (bG [aL 454 [ao "push",aj 1],aL 454 [ao "push",aj 2],aL 454 [ao "dup2"],aL 454 [ao "list",aj 3]])) (bS [.expr (iw fj [iO])]),.iH [5] true (.hM (.bin .Add (bG [aL 454 [ao "tuck",aj 1],aL 454 [ao "spreadto",aj 1,fU,aj 1]]) (.bin .Mult (bG [aL 454 [ao "pop"]]) (.bin .Add (aj 4) (iw (.glob (.type "int")) [aD .Eq fU (aj 1)]))))) (bS [.expr (iw fj [iO])])] [],ba (aD .Eq dZ (aj 2)) [d3 6 (aL 468 [bI,cZ,ao "block"]),d3 7 (.idx (bG [aY [ao "child",tQ],ao "pass"]) (aL 439 [bI,aj 2])),.expr (iw fj [aL 454 [ao "self"]]),ba (aD .Eq tS (ao "pass")) [.expr (iw fj [aL 454 [ao "lambda",tQ]])] [],.expr (iw fj [.idx (bG [aL 454 [ao "send",ao "each",aj 0,aY [ao "call",tS]],aL 454 [ao "super",aj 1,tS]]) (aL 439 [bI,aj 2])]),.expr (iw fj [aL 454 [ao "pop"]])] [],ba (aD .Gt dZ (aj 2)) [.expr (aL 480 [bI,cZ])] []]
def kI:Fn:=⟨3,[],8,jd⟩
def aV:S:=bS [.assign (.idx cZ (aj 3)) (.bin .Sub (bY cZ 3) (aj 1)),jc [4,5] (aY [bY cZ 0,aL 439 [bI,.ite (.and (aD .Gt fj (aj 0)) (aD .Gt (bY cZ 3) (aj 0))) (aj 12) (aj 7)]]),.expr (aL 487 [bI,cZ,.ite (aD .Lt iO (aj 7)) iO (.neg (aj 1))]),ba (aD .Eq iO (aj 7)) [.expr (gC fU .append [aL 454 [ao "getl",aj 0,aj 0]]),.expr (gC fU .append [aL 454 [.idx (bG [ao "jumpif",ao "jumpunless"]) (aL 439 [bI,aj 2]),aj 0]]),d3 6 (.idx fU (.neg (aj 1))),.expr (aL 494 [bI,cZ,dZ,.bin .Sub fj (aj 1)]),.expr (gC fU .append [aL 454 [ao "jump",aj 0]]),.assign (.tup (.name 7) (.tup (.idx tQ (aj 1)) (.nil))) (aY [.idx fU (.neg (aj 1)),c7 "len" [fU]]),.expr (aL 494 [bI,cZ,dZ,.bin .Sub fj (aj 1)]),.assign (.idx tS (aj 1)) (c7 "len" [fU])] [],ba (aD .Eq iO (aj 8)) [jc [8,6] (aY [c7 "len" [fU],aL 454 [ao "jumpunless",aj 0]]),.expr (gC fU .extend [bG [aL 454 [ao "getl",aj 0,aj 1],tQ]]),.expr (aL 494 [bI,cZ,dZ,.bin .Sub fj (aj 1)]),.expr (gC fU .append [aL 454 [ao "jump",OT]]),.assign (.idx tQ (aj 1)) (c7 "len" [fU])] [],ba (aD .Eq iO (aj 9)) [.expr (gC fU .extend [bG [aL 454 [ao "def",ao "f",aL 468 [bI,cZ,ao "method"]],aL 454 [ao "jumpnil",.bin .Add (c7 "len" [fU]) (aj 4)]]]),.expr (gC fU .extend [bG [aL 454 [ao "dup"],aL 454 [ao "pop"],aL 454 [ao "pop"]]])] [],ba (aD .Gt iO (aj 9)) [jc [9,10] (aY [.idx (bG [ao "rescue",ao "ensure"]) (aL 439 [bI,aj 2]),c7 "len" [fU]]),.expr (aL 494 [bI,cZ,dZ,.bin .Sub fj (aj 1)]),d3 7 (aL 454 [ao "jump",aj 0]),.expr (gC fU .append [tS]),.expr (gC (bY cZ 1) .append [bG [Wk,yE,.bin .Sub (c7 "len" [fU]) (aj 1),c7 "len" [fU],dZ]]),.expr (gC fU .extend [bG [aL 454 [ao "setl",aj 0,aj 1],aL 454 [ao "getl",aj 0,aj 1],aL 454 [.ite (aD .Eq iO (aj 10)) (ao "caught") (ao "again")]]]),ba (aD .Eq iO (aj 10)) [.expr (gC fU .append [aL 454 [ao "setl",aj 0,aj 1]])] [],.assign (.idx tS (aj 1)) (c7 "len" [fU])] []]
def mA:Fn:=⟨4,[],11,aV⟩
def bZ:S:=bS [jc [1,2] (aY [.idx (bG [ao "method",ao "program",ao "block",ao "class"]) (aL 439 [bI,aj 4]),aL 439 [bI,aj 3]]),d3 3 (bG [.comp (aL 454 [ao "push",aj 7]) [5] true (.gk dZ) (.lit (.bool true)),bG [],bG [],aj 6]),.iH [4] true (.gk (.ite (bY bI 3) (aj 1) (.bin .Add (aj 1) (aL 439 [bI,aj 3])))) (bS [.expr (aL 494 [bI,fj,dZ,.ite (bY bI 3) (aj 0) (aj 2)])]),.expr (gC (bY fj 0) .extend [bG [aL 454 [ao "push",aj 0],aL 454 [ao "leave"]]]),.ret (bG [cZ,aj 2,bY fj 0,bY fj 1,bY fj 2,bG [aj 0]])]
def mB:Fn:=⟨1,[],6,bZ⟩
def uQ:S:=bS [jc [2,3] (aY [.bin .Add (aj 1) (aL 439 [bI,aj 3]),.idx (bG [aj 1,.neg (aj 1),aj 3,aj 50]) (aL 439 [bI,aj 4])]),d3 4 (aL 439 [bI,aj 3]),ba (.and (aD .Eq fU (aj 0)) (.and (c7 "isinstance" [.idx cZ dZ,.glob (.type "int")]) (.not (c7 "isinstance" [.idx cZ dZ,.glob (.type "bool")])))) [.assign (.idx cZ dZ) (.bin .Add (.idx cZ dZ) fj)] [ba (aD .Eq fU (aj 1)) [.assign (.idx cZ dZ) (.idx (bG [.lit .none,.lit (.bool true),ao "x",.neg (aj 1),aj 2,aY [ao "child",aj 0],bG [ao "k"],ao "pass",aY [ao "call",.lit .none],aY [ao "call",aY [ao "child",aj 9]]]) (aL 439 [bI,aj 10]))] [.assign (.idx cZ (aj 0)) (ao "pusk")]]]
def uR:Fn:=⟨2,[],5,uQ⟩
def aN:S:=bS [jc [2,3,4] (aY [aL 439 [bI,aj 16],bY cZ 2,bY cZ 3]),d3 5 (aL 439 [bI,c7 "len" [fj]]),ba (aD .Eq dZ (aj 8)) [.expr (gC fj .pop [iO])] [],ba (aD .Eq dZ (aj 9)) [.expr (gC fj .insert [iO,.idx (bG [aL 454 [ao "pop"],aL 454 [ao "dup"],aL 454 [ao "push",aj 5],aL 454 [ao "leave"]]) (aL 439 [bI,aj 4])])] [],ba (.and (aD .Eq dZ (aj 10)) (aD .Gt iO (aj 0))) [.assign (.tup (.idx fj (.bin .Sub iO (aj 1))) (.tup (.idx fj iO) (.nil))) (aY [.idx fj iO,.idx fj (.bin .Sub iO (aj 1))])] [],ba (aD .In dZ (bG [aj 6,aj 7,aj 11,aj 12])) [.assign (.idx fj iO) (iw (.glob (.type "list")) [.idx fj iO]),.expr (aL 506 [bI,.idx fj iO])] [],ba (.and (aD .Eq dZ (aj 13)) (aD .NotEq fU (bG []))) [d3 6 (aL 439 [bI,aj 5]),.assign (.idx (bY fU 0) tQ) (.ite (aD .Eq tQ (aj 0)) (ao "retry") (.bin .Add (.idx (bY fU 0) tQ) (.idx (bG [aj 1,.neg (aj 1),aj 2,aj 40]) (aL 439 [bI,aj 4]))))] [],ba (aD .Eq dZ (aj 14)) [.assign (.idx cZ (aj 5)) (.idx (bG [bG [],bG [iO],bG [aj 0,iO],bG [c7 "len" [fj]]]) (aL 439 [bI,aj 4]))] [],ba (.and (aD .Eq dZ (aj 15)) (aD .NotEq (bY cZ 4) (bG []))) [.assign (.idx (bY (bY cZ 4) 0) (aj 0)) (.idx (bG [ao "method",ao "block",ao "class",ao "lambda"]) (aL 439 [bI,aj 4]))] []]
def ot:Fn:=⟨2,[],7,aN⟩
def uS:S:=bS [.ret (.and (c7 "isinstance" [bI,.glob (.type "int")]) (.not (c7 "isinstance" [bI,.glob (.type "bool")])))]
def uT:Fn:=⟨1,[],1,uS⟩
def uU:S:=bS [ba (.or (aD .Is bI (.lit .none)) (aD .Eq bI (ao "pass"))) [.ret (.lit (.bool true))] [],.ret (.and (c7 "isinstance" [bI,.glob (.type "tuple")]) (.and (aD .Eq (c7 "len" [bI]) (aj 2)) (.and (aD .Eq (bY bI 0) (ao "child")) (aL 520 [bY bI 1]))))]
def uV:Fn:=⟨1,[],1,uU⟩
def El:S:=bS [ba (aD .Eq bI (ao "t")) [.ret (c7 "isinstance" [cZ,.glob (.type "str")])] [],ba (aD .In bI (bG [ao "c",ao "p",ao "a",ao "i"])) [.ret (.and (aL 520 [cZ]) (aD .GtE cZ (.idx (.dict [ay "c",ay "p",ay "a",ay "i"] (pg [aj 0,aj 0,.neg (aj 1),.neg (.bin .Pow (aj 10) (aj 9))])) bI)))] [],ba (aD .Eq bI (ao "f")) [.ret (c7 "isinstance" [cZ,.glob (.type "bool")])] [],ba (aD .Eq bI (ao "r")) [.ret (.or (aD .Is cZ (.lit .none)) (aD .Eq cZ (aj 1)))] [],ba (aD .Eq bI (ao "k")) [.ret (c7 "isinstance" [cZ,aY [.glob (.type "list"),.glob (.type "tuple")]])] [],ba (aD .Eq bI (ao "b")) [.ret (aL 527 [cZ])] [],ba (aD .Eq bI (ao "o")) [.ret (aD .In cZ (bG [ao "break",ao "return"]))] [],ba (aD .Eq bI (ao "d")) [.ret (aD .In cZ (bG [ao "ivar",ao "gvar",ao "const",ao "const_of",ao "super",ao "yield",ao "method",ao "method_of"]))] [],ba (aD .Eq bI (ao "s")) [.ret (.and (c7 "isinstance" [cZ,.glob (.type "tuple")]) (.and (aD .Eq (c7 "len" [cZ]) (aj 2)) (.and (aD .In (bY cZ 0) (bG [ao "call",ao "self",ao "var"])) (aL 527 [bY cZ 1]))))] [],.ret (.lit (.bool true))]
def Em:Fn:=⟨2,[],2,El⟩
def yO:S:=bS [d3 1 (gC (.dict [ay "lambda",ay "def",ay "sdef",ay "class",ay "module",ay "sclass"] (pg [ao "block",ao "method",ao "method",ao "class",ao "class",ao "class"])) .get [bY bI 0]),ba (aD .IsNot cZ (.lit .none)) [.ret (bG [aY [.ite (aD .In (bY bI 0) (bG [ao "lambda",ao "sclass"])) (bY bI 1) (bY bI 2),cZ]])] [],d3 2 (gC (.dict [ay "send",ay "super",ay "zsuper"] (pg [bY bI 3,bY bI 2,bY bI 1])) .get [bY bI 0]),ba (aD .Eq (bY bI 0) (ao "send")) [d3 2 (bY dZ 1)] [],.ret (.ite (c7 "isinstance" [dZ,.glob (.type "tuple")]) (bG [aY [bY dZ 1,ao "block"]]) (bG []))]
def yP:Fn:=⟨1,[],3,yO⟩
def jX:S:=bS [ba (aD .NotIn (bY dZ 0) (aL 427 [])) [.ret (.lit (.bool false))] [],jc [3,4] (aY [bY (.idx (aL 427 []) (bY dZ 0)) 0,.slice dZ (aj 1) (.lit .none)]),ba (aD .NotEq (.comp tS [7] true (.gk (aj 3)) (.not (.ite (aD .Lt tS (c7 "len" [fj])) (aL 534 [.idx fj tS,.idx fU tS]) (aD .Is (.idx fU tS) (.lit .none))))) (bG [])) [.ret (.lit (.bool false))] [],ba (.and (aD .Eq (.slice (bY dZ 0) (.lit .none) (aj 4)) (ao "jump")) (aD .GtE (bY dZ 1) (c7 "len" [bY bI 2]))) [.ret (.lit (.bool false))] [],ba (.and (aD .In (bY dZ 0) (bG [ao "getl",ao "setl"])) (.not (.and (aD .Lt (bY dZ 1) (c7 "len" [cZ])) (aD .Lt (bY dZ 2) (.idx cZ (bY dZ 1)))))) [.ret (.lit (.bool false))] [],.iH [5,6] false (.hM (aL 541 [dZ])) (bS [ba (.or (.not (.cmp (aj 0) (.jz .LtE iO (.jz .Lt (c7 "len" [bY bI 4]) .nil)))) (aD .NotEq (bY (.idx (bY bI 4) iO) 0) tQ)) [.ret (.lit (.bool false))] []]),.ret (.lit (.bool true))]
def th:Fn:=⟨3,[],8,jX⟩
def cT:S:=bS [jc [1,2] (aY [bY bI 2,.bin .Mult (bG [.lit .none]) (c7 "len" [bY bI 2])]),d3 3 (.comp (aY [Wm,aj 0]) [17] true (.hM (bY bI 5)) (.lit (.bool true))),.iG (aD .NotEq fj (bG [])) (bS [jc [4,5] (gC fj .pop []),ba (.or (aD .GtE fU (c7 "len" [cZ])) (.and (aD .IsNot (.idx dZ fU) (.lit .none)) (aD .NotEq (.idx dZ fU) iO))) [.ret (.lit .none)] [],ba (aD .Is (.idx dZ fU) (.lit .none)) [.assign (.idx dZ fU) iO,jc [6,7,8,9] (.idx cZ fU),jc [10,11] (aL 446 [tQ,tS,OT,Wk]),ba (aD .Lt iO yE) [.ret (.lit .none)] [],ba (aD .Eq (.slice tQ (.lit .none) (aj 4)) (ao "jump")) [.expr (gC fj .append [aY [tS,.bin .Add (.bin .Sub iO yE) Eh]])] [],ba (aD .NotIn tQ (bG [ao "jump",ao "leave",ao "out",ao "again",ao "nomatch"])) [.expr (gC fj .append [aY [.bin .Add fU (aj 1),.bin .Add (.bin .Sub iO yE) Eh]])] [],.iH [12,13,14,15,16] false (.hM (bY bI 3)) (bS [ba (.cmp Qw (.jz .LtE fU (.jz .Lt JA .nil))) [ba (aD .Lt iO Qx) [.ret (.lit .none)] [],.expr (gC fj .append [aY [JB,.bin .Add Qx (aj 1)]])] []])] []]),.ret dZ]
def wz:Fn:=⟨1,[],18,cT⟩
def bT:S:=bS [jc [2,3,4,5,6,7] bI,d3 8 (.ite (aD .Eq dZ (ao "block")) (.bin .Add (bG [fj]) cZ) (bG [fj])),ba (.or (aD .NotIn dZ (bG [ao "method",ao "program",ao "block",ao "class"])) (aD .Eq tS (bG []))) [.ret (.lit .none)] [],ba (aD .NotEq (.comp JB [15] true (.hM fU) (.not (aL 546 [bI,OT,JB]))) (bG [])) [.ret (.lit .none)] [],.iH [9,10,11,12,13] false (.hM iO) (bS [ba (.or (aD .Eq Wk (ao "retry")) (.or (.not (.cmp (aj 0) (.jz .LtE yE (.jz .Lt Eh (.jz .LtE (c7 "len" [fU]) .nil))))) (.or (.not (.cmp (aj 0) (.jz .LtE Wl (.jz .Lt (c7 "len" [fU]) .nil)))) (aD .Lt Qw (aj 0))))) [.ret (.lit .none)] []]),.iH [14] true (.hM tQ) (bS [ba (aD .Is (aL 556 [JA,.ite (aD .Eq (bY JA 0) (ao "block")) OT (bG [])]) (.lit .none)) [.ret (.lit .none)] []]),.ret (aL 551 [bI])]
def JG:Fn:=⟨2,[],16,bT⟩
def Eo:S:=bS [jc [1,2,3,4,5,6] bI,jc [7,8] (aY [.comp (.bin .Add (ao "x") (iw (.glob (.type "str")) [yE])) [10] true (.gk dZ) (.lit (.bool true)),.comp (aL 87 [Eh,Wl,Qw,JA,aj 1]) [11,12,13,14] false (.hM fj) (.lit (.bool true))]),d3 9 (.comp (aL 115 [JB,Qx,Wm,abn,abo]) [15,16,17,18,19] false (.hM fU) (.lit (.bool true))),.ret (aL 150 [cZ,ao "c",.lit .none,tS,OT,Wk,.comp (aL 561 [abp]) [20] true (.hM iO) (.lit (.bool true)),tQ])]
def Ep:Fn:=⟨1,[],21,Eo⟩
def Es:S:=bS [.nJ (bS [.ret (aL 420 [bI])])]
def wA:Fn:=⟨1,[],1,Es⟩
def rC:S:=bS [d3 1 (aL 432 [bI]),d3 2 (aL 499 [cZ]),ba (.or (aD .Is (aL 556 [dZ,bG []]) (.lit .none)) (aD .NotEq (aL 568 [aL 561 [dZ]]) (aL 556 [dZ,bG []]))) [.ret (.lit (.bool false))] [],.expr (aL 513 [cZ,dZ]),.ret (aD .Eq (aL 568 [aL 561 [dZ]]) (aL 556 [dZ,bG []]))]
def OU:Fn:=⟨1,[],3,rC⟩
def rD:List (Addr×Fn):=[(77,qX),(105,oh),(112,qZ),(133,p5),(161,JD),(168,Ej),(175,ta),(182,td),(189,q6),(196,tf),(203,rf),(210,qq),(217,rh),(224,rj),(231,pn),(238,oj),(298,wq),(308,yH),(315,yJ),(322,CA),(329,uO),(336,yL),(350,lq),(357,qs),(364,pq),(369,lN),(376,lB),(383,lE),(390,qt),(397,kg),(404,rz),(420,uP),(427,pz),(432,A2),(439,wt),(446,yN),(454,JF),(461,CD),(468,rB),(475,wx),(480,oq),(487,kI),(494,mA),(499,mB),(506,uR),(513,ot),(520,uT),(527,uV),(534,Em),(541,yP),(546,th),(551,wz),(556,JG),(561,Ep),(568,wA),(575,OU)]
def du(a:Addr):Option Fn:=rD.lookup a
def kObjs:List (Addr×MO):=[(55,.tup [bX "method",bX "block",bX "class",bX "program"]),(56,.tup [bX "rescue",bX "ensure"]),(57,.tup [bX "call",bX "self",bX "var"]),(58,.tup [bX "break",bX "return"]),(59,.tup [bX "jump",bX "jumpif",bX "jumpunless",bX "jumpnil"]),(60,.tup [bX "jump",bX "leave",bX "out",bX "again",bX "nomatch"]),(61,.tup [bX "method_of",bX "const_of"]),(62,.tup [bX "ivar",bX "gvar",bX "const",bX "const_of",bX "super",bX "yield",bX "method",bX "method_of"]),(240,.tup [(int 0),(int 1)]),(241,.tup [(int 0),(int 1)]),(242,.tup [(int 1),(int 0)]),(243,.tup [(int 1),(int 2)]),(244,.tup [(int 2),(int 4)]),(245,.tup [(int 2),(int 2)]),(246,.tup [(int 0),(int 1)]),(247,.tup [(int 0),(int 1)]),(248,.tup [(int 1),(int 0)]),(249,.tup [(int 0),(int 1)]),(250,.tup [(int 1),(int 0)]),(251,.tup [(int 0),(int 1)]),(252,.tup [(int 1),(int 0)]),(253,.tup [(int 0),(int 1)]),(254,.tup [(int 1),(int 1)]),(255,.tup [(int 1),(int 0)]),(257,.tup [(int 2),(int 1)]),(258,.tup [(int 2),(int 1)]),(259,.tup [(int 1),(int 1)]),(260,.tup [(int 2),(int 1)]),(261,.tup [(int 1),(int 1)]),(262,.tup [(int 0),(int 0)]),(263,.tup [(int 1),(int 0)]),(264,.tup [(int 1),(int 0)]),(265,.tup [(int 1),(int 1)]),(266,.tup [(int 0),(int 1)]),(268,.tup [(int 0),(int 1)]),(269,.tup [(int 1),(int 1)]),(270,.tup [(int 0),(int 1)]),(271,.tup [(int 1),(int 1)]),(272,.tup [(int 0),(int 1)]),(273,.tup [(int 0),(int 1)]),(274,.tup [(int 1),(int 0)]),(275,.tup [(int 1),(int 0)]),(276,.tup [(int 1),(int 0)]),(277,.tup [(int 1),(int 1)]),(278,.tup [(int 1),(int 0)]),(279,.tup [(int 1),(int 1)]),(280,.tup [(int 1),(int 1)]),(281,.tup [(int 1),(int 1)]),(283,.tup [(int 1),(int 1)]),(284,.tup [(int 1),(int 1)]),(285,.tup [(int 1),(int 1)]),(286,.tup [(int 1),(int 1)]),(287,.tup [(int 1),(int 1)]),(288,.tup [(int 1),(int 1)]),(289,.tup [(int 1),(int 1)]),(290,.tup [(int 1),(int 0)]),(291,.tup [(int 0),(int 1)]),(239,.ir [((ay "push"),(.ref 240)),((ay "text"),(.ref 241)),((ay "pop"),(.ref 242)),((ay "dup"),(.ref 243)),((ay "dup2"),(.ref 244)),((ay "swap"),(.ref 245)),((ay "tuck"),(.ref 175)),((ay "self"),(.ref 246)),((ay "getl"),(.ref 247)),((ay "setl"),(.ref 248)),((ay "geti"),(.ref 249)),((ay "seti"),(.ref 250)),((ay "getg"),(.ref 251)),((ay "setg"),(.ref 252)),((ay "getc"),(.ref 253)),((ay "getcin"),(.ref 254)),((ay "setc"),(.ref 255)),((ay "list"),(.ref 182)),((ay "append"),(.ref 257)),((ay "joinlists"),(.ref 258)),((ay "spread"),(.ref 259)),((ay "table"),(.ref 189)),((ay "range"),(.ref 260)),((ay "totext"),(.ref 261)),((ay "texts"),(.ref 182)),((ay "send"),(.ref 196)),((ay "super"),(.ref 203)),((ay "zsuper"),(.ref 210)),((ay "yield"),(.ref 217)),((ay "jump"),(.ref 262)),((ay "jumpif"),(.ref 263)),((ay "jumpunless"),(.ref 264)),((ay "jumpnil"),(.ref 265)),((ay "lambda"),(.ref 266)),((ay "def"),(.ref 268)),((ay "sdef"),(.ref 269)),((ay "class"),(.ref 224)),((ay "module"),(.ref 270)),((ay "sclass"),(.ref 271)),((ay "alias"),(.ref 272)),((ay "undef"),(.ref 273)),((ay "leave"),(.ref 274)),((ay "out"),(.ref 275)),((ay "again"),(.ref 276)),((ay "caught"),(.ref 277)),((ay "setcaught"),(.ref 278)),((ay "defined"),(.ref 231)),((ay "spreadto"),(.ref 238)),((ay "respond"),(.ref 279)),((ay "islist"),(.ref 280)),((ay "istable"),(.ref 281)),((ay "listfits"),(.ref 283)),((ay "listat"),(.ref 284)),((ay "listpart"),(.ref 285)),((ay "tablehas"),(.ref 286)),((ay "tableat"),(.ref 287)),((ay "tablerest"),(.ref 288)),((ay "tableonly"),(.ref 289)),((ay "nomatch"),(.ref 290)),((ay "blockgiven"),(.ref 291))]),(299,.ir [((ay "push"),bX "v"),((ay "text"),bX "t"),((ay "tuck"),bX "c"),((ay "getl"),bX "cc"),((ay "setl"),bX "cc"),((ay "geti"),bX "n"),((ay "seti"),bX "n"),((ay "getg"),bX "n"),((ay "setg"),bX "n"),((ay "getc"),bX "n"),((ay "getcin"),bX "n"),((ay "setc"),bX "n"),((ay "list"),bX "c"),((ay "table"),bX "c"),((ay "range"),bX "f"),((ay "texts"),bX "c"),((ay "send"),bX "nas"),((ay "super"),bX "ab"),((ay "zsuper"),bX "b"),((ay "yield"),bX "a"),((ay "jump"),bX "p"),((ay "jumpif"),bX "p"),((ay "jumpunless"),bX "p"),((ay "jumpnil"),bX "p"),((ay "lambda"),bX "c"),((ay "def"),bX "nc"),((ay "sdef"),bX "nc"),((ay "class"),bX "ncf"),((ay "module"),bX "nc"),((ay "sclass"),bX "c"),((ay "alias"),bX "nn"),((ay "undef"),bX "n"),((ay "out"),bX "s"),((ay "defined"),bX "sv"),((ay "spreadto"),bX "crc"),((ay "respond"),bX "n"),((ay "listfits"),bX "cf"),((ay "listat"),bX "i"),((ay "listpart"),bX "cc"),((ay "tablehas"),bX "v"),((ay "tableat"),bX "v"),((ay "tablerest"),bX "k"),((ay "tableonly"),bX "k")]),]
def qD:List ((Addr×Str)×Addr):=[((115,ay "covers"),112),((407,ay "fail"),357),((407,ay "reach"),364),((407,ay "need_form"),369),((407,ay "need_slots"),376),((407,ay "need_child"),383),((407,ay "step"),390),((407,ay "need_catches"),397),((407,ay "run"),404)]
noncomputable def rF:List (Addr×Addr):=[(87,77),(115,105),(150,133),(407,350)]
def aG:Tab:=⟨λa=>match rF.lookup a with|some i=>.cls i|none=>if(du a).isSome then .fn else .no,λc n=>qD.lookup (c,n)⟩
structure Sc where
 im:List (Str×Nat)
 names:List (Str×NameKind)
noncomputable def gM:cC:=[
 (ofString "Row",.ref 87),(ofString "Catch",.ref 115),(ofString "Code",.ref 150),(ofString "RowCheck",.ref 407),
 (ofString "CODE_KINDS",.ref 55),(ofString "CATCH_SORTS",.ref 56),(ofString "SEND_KINDS",.ref 57),(ofString "OUT_SORTS",.ref 58),
 (ofString "JUMPS",.ref 59),(ofString "ENDS",.ref 60),(ofString "DEFINED_ON_TOP",.ref 61),(ofString "DEFINED_SORTS",.ref 62),
 (ofString "given",.ref 161),(ofString "passed",.ref 168),(ofString "EFFECTS",.ref 239),(ofString "effect_of",.ref 298),(ofString "OPERANDS",.ref 299),
 (ofString "is_whole",.ref 308),(ofString "is_block",.ref 315),(ofString "is_sort",.ref 322),(ofString "is_operand",.ref 329),(ofString "child_of",.ref 336),
 (ofString "check_rows",.ref 420),(ofString "_law_table",.ref 427),(ofString "_law_box",.ref 432),(ofString "_law_take",.ref 439),
 (ofString "_law_effect",.ref 446),(ofString "_law_row",.ref 454),(ofString "_law_child",.ref 461),(ofString "_law_within_new",.ref 468),
 (ofString "_law_operand",.ref 475),(ofString "_law_any",.ref 480),(ofString "_law_simple",.ref 487),(ofString "_law_piece",.ref 494),
 (ofString "_law_plain",.ref 499),(ofString "_law_bent_row",.ref 506),(ofString "_law_bend",.ref 513),(ofString "_law_is_whole",.ref 520),
 (ofString "_law_is_block",.ref 527),(ofString "_law_fits",.ref 534),(ofString "_law_within",.ref 541),(ofString "_law_row_right",.ref 546),
 (ofString "_law_heights",.ref 551),(ofString "_law_due",.ref 556),(ofString "_law_code",.ref 561),(ofString "_law_said",.ref 568),
 (ofString "BadRows",.ref 52)]
noncomputable def kJ:cC:=[
 (ofString "len",.builtin "len"),(ofString "isinstance",.builtin "isinstance"),(ofString "max",.builtin "max"),(ofString "abs",.builtin "abs"),(ofString "sorted",.builtin "sorted"),
 (ofString "int",.type "int"),(ofString "str",.type "str"),(ofString "bool",.type "bool"),(ofString "list",.type "list"),(ofString "tuple",.type "tuple"),
 (ofString "range",.type "range"),(ofString "enumerate",.type "enumerate"),(ofString "ValueError",.type "ValueError")]
noncomputable def Et:Option NameKind->Bool
 |some .local|some .cell|some .free=>true
 |_=>false
noncomputable def OV:Option NameKind->Bool|some .globalImplicit=>true|_=>false
noncomputable def eP(x:Str):Bool:=x !=ofString "__debug__"&&x !=ofString "__classdict__"&&x !=ofString "super"
noncomputable def Me.str:Me->Str
 |.append=>ofString "append"|.extend=>ofString "extend"|.pop=>ofString "pop"|.insert=>ofString "insert"|.get=>ofString "get"
 |.own n=>n
noncomputable def isStar:Expr->Bool|.Starred .. =>true|_=>false
noncomputable def isSlice:Expr->Bool|.Slice .. =>true|_=>false
noncomputable def uW(sc:Scope):Bool:=sc.kind==.function&& !sc.isGenerator&& !sc.isCoroutine&&sc.more.isEmpty&&sc.names.all λp=>p.2==.local||p.2==.free||p.2==.globalImplicit
def storeOk(c:Sc)(x:Str):Bool:=eP x&&(c.names.lookup x==some .local||c.names.lookup x==some .cell)
noncomputable def kh(sc:Scope):List (Str×Nat):=((sc.names.filter λp=>p.2==.local||p.2==.cell).map (·.1)).zipIdx
def A3(f:Fn)(args:Arguments)(sc:Scope):Bool:=
 sc.kind==.function&& !sc.isGenerator&& !sc.isCoroutine&&sc.names.all (λp=>p.2==.local||p.2==.cell||p.2==.globalImplicit)&&
 args.posonlyargs.isEmpty&&args.vararg.isNone&&args.kwonlyargs.isEmpty&&args.kwarg.isNone&&
 args.args.length==f.params&&(args.args.map (·.arg)).zipIdx==(kh sc).take f.params&&decide ((sc.names.map (·.1)).Nodup)&&decide ((kh sc).length<=f.size)
end fG
namespace fG
open PySem PySem.W PySem.Calls PyProof.Rows
section
open Sem (wp)
noncomputable def Eu:ai:=[.ref 39,.type "ValueError",.type "Exception",.type "BaseException",.type "object"]
inductive hO(h:Heap):Prop
 |mk (nm q N bs rG sn sub ab Ew dd k0 k1 k2 k3 k5):h.get? 52=some (excClassObj nm q 52 N bs Eu rG sn sub ab Ew dd k0 k1 k2 k3 k5 "ValueError.__new__")->hO h
def hO.keeps{h h':Heap}(b:hO h)(k:∀b o,h.get? b=some o->h'.get? b=some o):hO h':=by
 obtain⟨nm,q,N,bs,rG,sn,sub,ab,Ew,dd,k0,k1,k2,k3,k5,e⟩:=b;exact⟨nm,q,N,bs,rG,sn,sub,ab,Ew,dd,k0,k1,k2,k3,k5,k _ _ e⟩
def cV:(Value.ref 52::Eu).contains (.type "ValueError")=true:=by decide+kernel
def cB:(Value.ref 52::Eu).contains (.type "BaseException")=true:=by decide+kernel
def cO:(Value.ref 52::Eu).contains (.type "object")=true:=by decide+kernel
def cA:(Value.ref 52::Eu).contains (.type "AttributeError")=false:=by decide+kernel
def cN:(Value.ref 52::Eu).contains (.type "NameError")=false:=by decide+kernel
def cS:(Value.ref 52::Eu).contains (.ref 52)=true:=by decide+kernel
def bB:Eu.contains (.type "BaseException")=true:=by decide+kernel
section
variable{prog:Program}{w:World}{A:Around}{R:Result->bW}{h:Heap}{g:Array GenState}{d:Drawn}{t:Nat}{os:OsState}
def JH{rest:ai}(hC:hO h)(wB:rest.length<=100)
  (hq:R (.ok (.ret (.ref (h.objs.size+1)))) ⟨(h.push {cls:=.type "tuple",data:=.seq rest.toArray}).push
   {cls:=.ref 52,data:=.fields #[.ref h.objs.size,.none,.none,.none,.bool false,.none]},g,d,t,os⟩):
  codeAny (model prog w) A (.builtin "ValueError.__new__" ⟨.ref 52::rest,[]⟩) R ⟨h,g,d,t,os⟩:=by
 obtain⟨nm,q,N,bs,rG,sn,sub,ab,Ew,dd,k0,k1,k2,k3,k5,hC⟩:=hC;have Fv:=PySem.F.excBase_ValueError;have adu:=Fv.ends;have hl:rest.length<=sizeLine:=aa wB (by rw[sizeLine_eq];decide);have Wn:=cV;have hcA:=cA;have hcN:=cN;refine codeAny_builtinAt Fv.entry ?_;unfold Builtin.«BaseException.__new__»;refine PySem.wpAt_bind ?_
 show PySem.wpAt _ _ _ (stack>>=_) _ _ _
 refine PySem.wpAt_bind (PySem.wpAt_stack λp below=>PySem.wpAt_of_wpAny ?_)
 wp_walk
 refine PySem.wpAt_of_wpAny ?_;rw[Fv.owner]
 repeat(first|with_reducible refine wpAny_madeHere_exc Fv.canon hC ?_|with_reducible refine wpAny_loadPart_at hC ?_|(with_reducible refine wpAny_isSubtype_exc hC ?_;first|rw[Wn]|rw[hcA]|rw[hcN])|wp_step)
 show R _ _
 rw[Heap.size_push];exact hq
end
section
variable{M:Model}{A:Around}{E:Value->bW}{h:Heap}{g:Array GenState}{d:Drawn}{t:Nat}{os:OsState}
def tm{rest:ai}{Q:Unit->bW}(hC:hO h)(hq:Q () ⟨h,g,d,t,os⟩):wpAny M A (checkBuiltinCall "ValueError.__new__" ⟨.ref 52::rest,[]⟩) Q E ⟨h,g,d,t,os⟩:=by
 obtain⟨nm,q,N,bs,rG,sn,sub,ab,Ew,dd,k0,k1,k2,k3,k5,hC⟩:=hC;have Fv:=PySem.F.excBase_ValueError;have Wo:=cV;have adw:=Fv.noStar;simp only[checkBuiltinCall,Fv.newKind,Fv.newSplit,Fv.newRow]
 repeat(first|refine wpAny_loadPart_at hC ?_|(refine wpAny_isSubtype_exc hC ?_;rw[Wo])|refine wpAny_staticBase_exc hC ?_|refine wpAny_madeBy_exc hC ?_|simp only[bne_self_eq_false,Bool.false_eq_true,if_false]|wp_step)
 exact hq
def rH{e:Addr}{oe:Obj}{rest:ai}{Q:Unit->bW}(hC:hO h)(he:h.get? e=some oe)(yQ:oe.cls=.ref 52)(hq:Q () ⟨h,g,d,t,os⟩):
  wpAny M A (checkBuiltinCall "ValueError.__init__" ⟨.ref e::rest,[]⟩) Q E ⟨h,g,d,t,os⟩:=by
 obtain⟨nm,q,N,bs,rG,sn,sub,ab,Ew,dd,k0,k1,k2,k3,k5,hC⟩:=hC;have Fv:=PySem.F.excBase_ValueError;have Wn:=cV;have abq:=Fv.noStar;simp only[checkBuiltinCall,Fv.initKind,Fv.initSplit,Fv.initRow]
 repeat(first|(with_reducible refine wpAny_loadPart_at he ?_;rw[yQ])|with_reducible refine wpAny_loadPart_at hC ?_|(with_reducible refine wpAny_isSubtype_exc hC ?_;rw[Wn])|wp_step)
 refine wpAny_onRaise ?_;rw[show∀(a b:String)(n:Nat),Bind.check ⟨.positional,"*","ValueError",.self,[⟨"args",.varPos,false⟩]⟩ a b n (List.map (λx=>x.fst) ({pos:=Value.ref e::rest}:Args).kw)=pure ()from
  λa b n=>check_star_args _ _ _ _ _ _]
 exact ax hq
end
section
variable{prog:Program}{w:World}{A:Around}{R:Result->bW}{h:Heap}{g:Array GenState}{d:Drawn}{t:Nat}{os:OsState}{K:Frag}
noncomputable abbrev kK(args:Addr):Obj:={cls:=.ref 52,data:=.fields #[.ref args,.none,.none,.none,.bool false,.none]}
noncomputable abbrev fV(rest:ai):Obj:={cls:=.type "tuple",data:=.seq rest.toArray}
def Ey{rest:ai}{fI:Addr}(X:K.In h)(hC:hO h)(wB:rest.length<=100)(hi:findIn K (.ref 52) "__init__"=some (some (.ref fI)))(hf:typeIn K (.ref fI)=some (.type "function"))
  (hq:codeAny (model prog w) (A.under (.builtin "type.__call__" ⟨.ref 52::rest,[]⟩)) (.call (.ref fI) ⟨.ref (h.objs.size+1)::rest,[]⟩) (InitBack (h.objs.size+1) R) ⟨(h.push (fV rest)).push (kK h.objs.size),g,d,t,os⟩):
  codeAny (model prog w) A (.call (.ref 52) ⟨rest,[]⟩) R ⟨h,g,d,t,os⟩:=by
 have hCC:=hC;obtain⟨nm,q,N,bs,rG,sn,sub,ab,Ew,dd,k0,k1,k2,k3,k5,hC⟩:=hC;have Fv:=PySem.F.excBase_ValueError;have f1:=tc_lookup;have f2:=tc_bind (.ref 52);have hT:(⟨h,g,d,t,os⟩:Shared).TypeIs (.ref 52) "type":=⟨_,hC,rfl⟩
 refine codeAny_of_tree ?_
 show wpAny _ _ (callAny (.ref 52) _) _ _ _
 repeat(any_goals(first|assumption|with_reducible refine wpAny_loadPart_at hC ?_|wp_step))
 refine⟨rfl,?_⟩;refine codeAny_call_builtin_at (Code.quiet_builtin _ pX) entry_typeCall (wpAny_check_type_call_sub hC ?_)
 repeat(first|with_reducible refine wpAny_loadPart_at hC ?_|with_reducible refine wpAny_madeBy_exc hC ?_|wp_step)
 refine codeAny_call_builtin_code (Code.quiet_builtin _ Fv.quiet) (tm hCC ?_);refine JH hCC wB ?_
 show wpAny _ _ _ _ _ _
 have k:∀b o,h.get? b=some o->((h.push (fV rest)).push (kK h.objs.size)).get? b=some o:=λb o e=>cU _ (cU _ e);have OW:=k _ _ hC;have Wq:((h.push (fV rest)).push (kK h.objs.size)).get? (h.objs.size+1)=some (kK h.objs.size):=by heap_get
 have hcC:=cS;have t1:Looks (model prog w) ((h.push (fV rest)).push (kK h.objs.size)) (typeOf (.ref (h.objs.size+1))) (.ref 52):=(Looks.ld Wq).andThen .now;have i1:=(looks_findIn (M:=model prog w) X hi).keeps k;have b1:=(bind_fn (M:=model prog w) X (.ref (h.objs.size+1)) hf).keeps k;unfold isInstance
 repeat(first|with_reducible refine wpAny_loadPart_at Wq ?_|(with_reducible refine wpAny_isSubtype_exc OW ?_;rw[hcC])|wp_step)
 have st:Looks (model prog w) ((h.push (fV rest)).push (kK h.objs.size)) (isSubtype (.ref 52) (.ref 52)) true:=by
  intro A' Q' E' s' k' q';obtain⟨h',g',d',t',os'⟩:=s';refine wpAny_isSubtype_exc (k' _ _ OW) ?_;rw[cS];exact q'
 refine st.here ?_
 show wpAny _ (A.under (.builtin "type.__call__" ⟨.ref 52::rest,[]⟩)) _ _ _ ⟨(h.push (fV rest)).push (kK h.objs.size),g,d,t,os⟩
 unfold callSpecial? specialOf
 repeat(first|with_reducible refine wpAny_call ?_|lk)
 refine codeAny_mono hq λr s' z=>?_;rcases r with e|(v|_|_|_)<;>first|exact z|exact z.elim|skip
 obtain⟨rfl,z⟩:=z;exact ax (ax z)
end
end
end fG
namespace fG
open PySem PySem.W PySem.Calls PyProof.Rows Builtin Builtin.ObjectAttr
section
variable{prog:Program}{w:World}{A:Around}{E:Value->bW}{h:Heap}{g:Array GenState}{d:Drawn}{t:Nat}{os:OsState}
def Ez(h:Heap):h.get? h.objs.size=none:=by
 cases e:h.get? h.objs.size with
 |none=>rfl|some o=>exact absurd (Heap.lt_size e) (Nat.lt_irrefl _)
def EA{x:Addr}{oe:Obj}{vs:Array Value}{a0:Addr}{v:Value}{Q:Value->bW}(hC:hO h)(he:h.get? x=some oe)(yQ:oe.cls=.ref 52)(hd:oe.data=.fields vs)(h0:vs[0]? =some (.ref a0))
  (hq:Q .none ⟨(h.push (fV [v])).update x (Obj.mapFields (·.setIfInBounds 0 (.ref h.objs.size))),g,d,t,os⟩):
  wpAny (model prog w) A (call (.builtin "ValueError.__init__") [.ref x,v]) Q E ⟨h,g,d,t,os⟩:=by
 have Fv:=PySem.F.excBase_ValueError;refine wpAny_call (codeAny_call_builtin Fv.init.plain Fv.initEntry (rH hC he yQ ?_));have he':=cU (fV [v]) he;have hsz:0<vs.size:=(Array.getElem?_eq_some_iff.mp h0).1;unfold Builtin.«BaseException.__init__» Builtin.BaseException.bexcPut newTuple
 dsimp only
 show wpAny _ _ (newObj (.type "tuple") (.seq [v].toArray)>>=λtv=>(field (.ref x) 0>>=λold=>(setField (.ref x) 0 tv>>=λj=>match old with|.ref _=>letGo [old] []|_=>pure ()))>>=λj=>ret .none) _ _ _
 refine ae (wpAny_newObj_type (ae (ae ?_)) (by show 1<=sizeLine;rw[sizeLine_eq];decide));refine wpAny_field he' hd h0 ?_;refine ae (wpAny_setField he' hd hsz ?_);exact ae (bF (wpAny_point (ax (ax hq))))
def EB{K:Frag}{pl:Sem Bool}{Q:Value×ai->bW}{s:Shared}(X:K.In s.heap)(h:Q (.builtin "ValueError.__init__",[]) {s with toks:=s.toks+1}):
  wpAny (model prog w) A (getMethod (.type "ValueError") (ofString "__init__") pl) Q E s:=by
 have ht:typeOf (.type "ValueError")=pure (.type "type"):=aO;have Wr:opaqueClassAbove (.type "ValueError")=pure none:=by unfold opaqueClassAbove;dsimp only;rw[show Manifest.isStub "ValueError"=false by decide+kernel];rfl
 have L0:Looks (model prog w) s.heap (typeOf (.type "ValueError")) (.type "type"):=Looks.of_pure ht;have hg:findIn K (.type "type") "__getattribute__"=some (some (.builtin "type.__getattribute__")):=type_tga;have e:findCls K (.type "ValueError") (.type "type") (ofString "__init__")=some (.val (.builtin "ValueError.__init__")):=aO;unfold getMethod specialOf;refine ae (ae (L0.here ((looks_findIn X hg).here ?_)))
 dsimp only
 rw[av canon_tga];refine ae (aJ (Q:=λv=>Q (v,[])) (E:=E) ?_ (λj j z=>ax z) λj j z=>z);have LO:Looks (model prog w) s.heap (opaqueClassAbove (.type "ValueError")) none:=Looks.of_pure Wr;refine cls_open X LO L0 hg (looks_hook X (r:=none) (by rfl)) (by show subIn K _ _=_;rfl) e
  (ax (by show wpAny _ _ (handedOut (.builtin "ValueError.__init__")) _ _ _;rw[handedOut_of pX];exact ax h))
def CE{K:Frag}{x:Addr}{oe:Obj}{vs:Array Value}{v:Value}{Q:Unit->bW}{s:Shared}(X:K.In s.heap)(hC:hO s.heap)(hh:hasDictIn K 52=true)
  (he:s.heap.get? x=some oe) (yQ:oe.cls=.ref 52) (hd:oe.data=.fields vs) (EC:oe.dict=none)
  (hs:findIn K (.ref 52) "__setattr__"=some (some (.builtin "object.__setattr__"))) (ht:takerIn K 52 "reason"=some none)
  (hq:∀h' dx,s.heap.get? dx=none->dx≠x->(∀b o,s.heap.get? b=some o->b≠x->h'.get? b=some o)->h'.get? x=some {oe with dict:=some dx}->Q () {s with heap:=h',toks:=s.toks+2}):
  wpAny (model prog w) A (setAttr (.ref x) "reason" v) Q E s:=by
 have I:InstAt s.heap x oe 52 none:=⟨he,yQ,by unfold notCls;rw[hd],by rw[EC];trivial⟩
 refine set_plain X I hs ?_;obtain⟨hp,g,d,tk,os⟩:=s
 dsimp only at X hC he hq I
 have SF:=PySem.F.store_object;obtain⟨nm,q,N,bs,rG,sn,abr,ab,Ew,dd,k0,k1,k2,k3,k5,hC⟩:=hC;have T0:Looks (model prog w) hp (typeOf (.ref x)) (.ref 52):=I.type;have so:Looks (model prog w) hp (isSubtype (.ref 52) (.type "object")) true:=by
  intro A' Q' E' s' k' q';obtain⟨h',g',d',t',os'⟩:=s';refine wpAny_isSubtype_exc (k' _ _ hC) ?_;rw[cO];exact q'
 have hm:Looks (model prog w) hp (mroOf (.ref 52)) (.ref 52::Eu):=by
  intro A' Q' E' s' k' q';obtain⟨h',g',d',t',os'⟩:=s';exact wpAny_mroOf_exc (k' _ _ hC) q'
 have sub:Looks (model prog w) hp (isInstance (.ref x) (.type "object")) true:=T0.andThen so;refine codeAny_call_builtin SF.slot.plain SF.entry (@check_slot (model prog w) _ _ ⟨hp,g,d,tk+1,os⟩ "object.__setattr__" "object" "__setattr__" (.ref x) [.str (ofString "reason") tk,v] [] _ SF.kind SF.split sub (SF.args (.ref x) (.str (ofString "reason") tk) v) ?_);obtain⟨attr,ha,hr⟩:=Option.bind_eq_some_iff.mp ht;have L3:Looks (model prog w) hp (storeTaker? attr) none:=by
  cases attr with
  |none=>cases hr;exact .now|some a=>
   obtain⟨b,hb,e⟩:=dA hr;refine(looks_takesIn X hb).andThen ?_
   cases b with
   |true=>cases e|false=>exact .now
 rw[osa_eq,refuse_eq];refine ae (ae (T0.here (ae (hm.here ?_))));have abt:refuseLoop (.ref x) "__setattr__" (.ref 52::Eu)=pure ():=by
  unfold Eu;rw[refuseLoop_ref,refuseLoop_ref]
  kernel_rfl
 rw[abt];refine ax (ae (T0.here (ae ((looks_findIn X ha).here (ae (L3.here ?_))))));obtain⟨cd,hc,A4⟩:=any_some hh
 show wpAny _ _ (storeInOwnDict (.ref x) (.ref 52) (.str (ofString "reason") tk) (ofString "reason") v attr.isSome) _ _ _
 obtain⟨oc,odi,oda,osl⟩:=oe
 dsimp only at yQ EC hd
 subst yQ EC hd;refine ae (ax (ae (ae (wpAny_loadPart he (ae ((looks_clsIn X hc).here ?_))))));rw[A4];have mP:=Heap.lt_size he;have he2:=cU emptyDict he;have eD:(hp.push emptyDict).get? hp.objs.size=some emptyDict:=fa _ rfl;have ne:hp.objs.size≠x:=λz=>by rw[<-z]at mP;exact Nat.lt_irrefl _ mP
 refine ae (wpAny_alloc (ae (wpAny_update he2 (ax (ae ?_)))));generalize hh1:(hp.push emptyDict).update x (λo=>{o with dict:=some hp.objs.size})=h1;have e1:∀b,b≠x->h1.get? b=(hp.push emptyDict).get? b:=λb hb=>by rw[<-hh1];exact Heap.get?_update_other _ _ (b8 hb)
 have ex:h1.get? x=some ⟨.ref 52,some hp.objs.size,.fields vs,osl⟩:=by rw[<-hh1];exact Heap.get?_update_self _ he2 rfl
 have eD1:h1.get? hp.objs.size=some emptyDict:=(e1 _ ne).trans eD;refine ax (s:=⟨h1,g,d,tk+1,os⟩) (ae ?_);refine ae (ae (wpAny_askSetting (ax (ae (wpAny_mkText (ae (wpAny_loadPart eD1 ?_)))))))
 dsimp only
 rw[aRefKeyMayBeTheName_at];rw[show(!(#[]:Array DictEntry).any (·.key.isStr (ofString "reason"))&&(#[]:Array DictEntry).any (·.refKey))=false from by simp];refine wpAny_updatePart eD1 ?_;have eD2:=Heap.get?_update_self (Obj.putName (ofString "reason") (PyData.keyHash w.params (ofString "reason")) (.str (ofString "reason") (tk+1)) v) eD1 rfl;refine ae (wpAny_lookBehind eD2 (pastItsLine_dict (by show 1<=_;omega)) ?_);refine ax (hq _ hp.objs.size (Ez hp) ne (λb o hb hbx=>?_) ?_)
 ·have hbd:b≠hp.objs.size:=λz=>by have:=Heap.lt_size hb;rw[z]at this;exact Nat.lt_irrefl _ this
  rw[Heap.get?_update_other _ _ (b8 hbd),e1 b hbx];exact cU _ hb
 ·rw[Heap.get?_update_other _ _ ne];exact ex
end
end fG
namespace fG
open PySem PySem.W PySem.Calls PyProof.Rows
noncomputable def er:Value->Value|.int i _=>.int i 0|.float b _=>.float b 0|.str s _=>.str s 0|.bytes b _=>.bytes b 0|v=>v
noncomputable def MO.mut:MO->Bool
 |.list _|.dict _|.ns _|.exc _=>true
 |_=>false
def nsMap(fs:List (At×Value))(x:Str):bq:=(fs.find? λp=>p.1.str==x).map (·.2)
inductive lO(S:Array Value->Prop)(xs:ai):Prop
 |mk (items):S items->items.toList.map er=xs->xs.length<=aq->lO S xs
inductive wD(P:Program×World)(h:Heap)(a:Addr)(es:cC):Prop|mk (kvs):h.DictOf (strKind P.1 P.2) a kvs->kvs.map (λp=>(p.1,er p.2))=es->a≠sysModules->wD P h a es
inductive RNs(h:Heap)(a:Addr)(fs:List (At×Value)):Prop
 |mk (es n):h.get? a=some (PySem.W.dictOf es n)->StrKeys es.toArray->(∀x,(nsFind es.toArray x).map er=nsMap fs x)->es.length=fs.length->RNs h a fs
inductive Ws(h:Heap)(a:Addr)(b:Bool):Prop
 |mk (oe vs a0):h.get? a=some oe->oe.cls=.ref 52->oe.data=.fields vs->vs[0]? =some (.ref a0)->vs[1]? =some .none->(b=true->oe.dict=none)->Ws h a b
def je(P:Program×World)(h:Heap)(a:Addr):MO->Prop|.list xs=>lO (h.PlainList a) xs|.ro xs=>lO (h.IsList a) xs|.tup xs=>lO (λitems=>h.get? a=some {cls:=.type "tuple",data:=.seq items}) xs|.dict es=>wD P h a es|.ir es=>wD P h a es|.inst c d=>h.get? a=some (instObj c d)/\c∈iU|.ns fs=>RNs h a fs|.app l=>∃dd sl,h.get? a=some ⟨.type "builtin_function_or_method",dd,.fields #[.builtin "list.append",.ref l],sl⟩|.exc b=>Ws h a b
inductive lP(h:Heap)(a:Addr)(R:Heap->Prop):Prop
 |mk (ob):h.get? a=some ob->(∀h',h'.get? a=some ob->R h')->lP h a R
def lP.elim{h:Heap}{a:Addr}{R:Heap->Prop}{C:Prop}(x:lP h a R)(k:∀ob,h.get? a=some ob->(∀h',h'.get? a=some ob->R h')->C):C:=by
 cases x with
 |mk ob e z=>exact k ob e z
def wF{P:Program×World}{h:Heap}{a:Addr}{es:cC}(x:wD P h a es):lP h a λh=>wD P h a es:=by
 obtain⟨kvs,⟨o,es,n,e,q⟩,q2,q3⟩:=x;exact⟨o,e,λj e'=>⟨kvs,⟨o,es,n,e',q⟩,q2,q3⟩⟩
def A5{P:Program×World}{h:Heap}{a:Addr}{o:MO}(x:je P h a o):lP h a λh=>je P h a o:=by
 cases o with
 |list xs=>obtain⟨i,⟨n,e⟩,q⟩:=x;exact⟨_,e,λj e'=>⟨i,⟨n,e'⟩,q,‹_›⟩⟩|ro xs=>obtain⟨i,⟨n,e,q0⟩,q⟩:=x;exact⟨_,e,λj e'=>⟨i,⟨n,e',q0⟩,q,‹_›⟩⟩|tup xs=>obtain⟨i,e,q⟩:=x;exact⟨_,e,λj e'=>⟨i,e',q,‹_›⟩⟩|dict es=>exact wF x|ir es=>exact wF x|inst c d=>exact⟨_,x.1,λj e=>⟨e,x.2⟩⟩|ns fs=>obtain⟨i,n,e,q⟩:=x;exact⟨_,e,λj e'=>⟨i,n,e',q,‹_›,‹_›⟩⟩|app l=>obtain⟨i,n,e⟩:=x;exact⟨_,e,λj e'=>⟨i,n,e'⟩⟩|exc b=>obtain⟨i,n,a,e,q⟩:=x;exact⟨_,e,λj e'=>⟨i,n,a,e',q,‹_›,‹_›,‹_›,‹_›⟩⟩
section
variable{P:Program×World}{base:Heap}{os:OsState}{H H':Hp}{h h':Heap}{s:Shared}{a:Addr}{o o':MO}{FA:bJ}
def CF(x:je P h a o):∃ob,h.get? a=some ob:=(A5 x).elim λob e j=>⟨ob,e⟩
def je.kept(x:je P h a o)(k:∀ob,h.get? a=some ob->h'.get? a=some ob):je P h' a o:=(A5 x).elim λob q z=>z h' (k ob q)
def je.at(x:je P h a o)(e:h'.get? a=h.get? a):je P h' a o:=x.kept λj q=>e.trans q
def Hp.set_same{H:Hp}:H.set a o a=some o:=av rfl
def Hp.bj{H:Hp}{b:Addr}(n:b≠a):H.set a o b=H b:=aB n
def Hp.jY{H:Hp}{b:Addr}{m:MO}(e:H.set a o b=some m):(b=a/\o=m)\/(b≠a/\H b=some m):=by
 by_cases z:b=a
 ·rw[z,Hp.set_same]at e;exact .inl ⟨z,ar e⟩
 ·rw[Hp.bj z]at e;exact .inr ⟨z,e⟩
def Hp.qE{H:Hp}{b:Addr}(e:H b≠none):H.set a o b≠none:=by
 by_cases z:b=a
 ·rw[z,Hp.set_same];exact nofun
 ·rw[Hp.bj z];exact e
def Hp.qF{H:Hp}{b:Addr}(e:H.set a o b≠none):b=a\/H b≠none:=by
 by_cases z:b=a
 ·exact .inl z
 ·rw[Hp.bj z]at e;exact .inr e
def jC{α:Type}{x:Option α}{y:α}(e:x=some y):x≠none:=by rw[e];exact nofun
def aI{α:Type}{x:Option α}{y:α}{C:Prop}(n:x=none)(e:x=some y):C:=by rw[n]at e;exact eA e
def or_none{α:Type}{x:Option α}{C:Prop}(k:∀y,x=some y->C):x=none\/C:=by
 cases x with
 |none=>exact .inl rfl|some y=>exact .inr (k y rfl)
def is_none{α:Type}{x:Option α}(k:∀y,x=some y->False):x=none:=(or_none k).elim id False.elim
structure Rel(P:Program×World)(base:Heap)(os:OsState)(H:Hp)(s:Shared):Prop where
 objs:∀a o,H a=some o->je P s.heap a o
 own:∀a o,H a=some o->o.mut=true->base.get? a=none
 stays:base.StaysIn s.heap
 gens:s.gens=#[]
 os:s.os=os
def Rel.fresh(R:Rel P base os H s)(n:s.heap.get? a=none):H a=none:=is_none λo e=>(CF (R.objs a o e)).elim λj q=>aI n q
def nK(l:h.objs.size<=a):h.get? a=none:=is_none λj e=>absurd (Heap.lt_size e) (Nat.not_lt.mpr l)
def eW(h:Heap):h.get? h.objs.size=none:=nK (aH _)
def Still(H:Hp)(a:Addr):Prop:=∀m,H a=some m->m.mut=false
inductive Kept(FA:bJ)(h':Heap)(a:Addr)(o:Obj):Prop
 |mk (sl):h'.get? a=some {o with slots:=sl}->(a∉FA->sl=o.slots)->Kept FA h' a o
def Kept.elim{ob:Obj}{C:Prop}(x:Kept FA h' a ob)(k:∀sl,h'.get? a=some {ob with slots:=sl}->(a∉FA->sl=ob.slots)->C):C:=by
 cases x with
 |mk sl e z=>exact k sl e z
def d4(n:H a=none):Still H a:=λj e=>aI n e
def Kept.of{ob:Obj}(e:h'.get? a=some ob):Kept FA h' a ob:=⟨ob.slots,e,λj=>rfl⟩
structure Ext(FA:bJ)(H:Hp)(h:Heap)(H':Hp)(h':Heap):Prop where
 rest:∀a o,h.get? a=some o->Still H a->Kept FA h' a o
 same:∀a m,H a=some m->m.mut=false->H' a=some m
 ym:∀a,H a≠none->H' a≠none
 fresh:∀a,H' a≠none->H a≠none\/h.get? a=none
def Ext.refl(FA:bJ)(H:Hp)(h:Heap):Ext FA H h H h:=⟨λj j e j=>.of e,λj j e j=>e,λj e=>e,λj e=>.inl e⟩
def Ext.back(x:Ext FA H h H' h')(n:h'.get? a=none):H a≠none\/h.get? a=none:=
 (or_none λm e=>jC e).symm.imp_right λz=>is_none λo e=>(x.rest a o e (d4 z)).elim λj p j=>aI n p
def Ext.ED{ob:Obj}(x:Ext FA H h H' h')(e:h.get? a=some ob)(q:Still H a):Still H' a:=λm hm=>
 (x.fresh a (jC hm)).elim (λz=>(or_none λm' e'=>by
  have:=x.same a m' e' (q m' e');rw[hm]at this;rw[ar this];exact q m' e').elim (λn=>absurd n z) id) λz=>aI z e
def Ext.trans{JI:Hp}{iV:Heap}(x:Ext FA H h H' h')(y:Ext FA H' h' JI iV):Ext FA H h JI iV:=
 ⟨λa o e q=>(x.rest a o e q).elim λsl e1 q1=>(y.rest a _ e1 (x.ED e q)).elim λOX e2 q2=>⟨OX,e2,λn=>(q2 n).trans (q1 n)⟩,
  λa m e q=>y.same a m (x.same a m e q) q,λa e=>y.ym a (x.ym a e),λa e=>(y.fresh a e).elim (x.fresh a) x.back⟩
def Ext.Wt{FB:bJ}(x:Ext FB H h H' h')(q:∀a∈FB,a∈FA\/h.get? a=none):Ext FA H h H' h':=
 ⟨λa o e n=>(x.rest a o e n).elim λsl e1 q1=>⟨sl,e1,λhn=>q1 λhb=>(q a hb).elim hn λz=>aI z e⟩,x.same,x.ym,x.fresh⟩
def Ext.keep{ob:Obj}(x:Ext FA H h H' h')(e:h.get? a=some ob)(n:Still H a)(hf:a∉FA):h'.get? a=some ob:=
 (x.rest a ob e n).elim λsl e1 q=>by rw[e1,q hf]
def Ext.data{ob:Obj}(x:Ext FA H h H' h')(e:h.get? a=some ob)(n:Still H a):∃o',h'.get? a=some o'/\o'.data=ob.data/\o'.cls=ob.cls:=
 (x.rest a ob e n).elim λsl e1 q=>⟨_,e1,rfl,rfl⟩
def Ext.ns{m:Str->bq}(x:Ext FA H h H' h')(e:h.Ns a m)(n:H a=none):h'.Ns a m:=by
 obtain⟨o,es,ep,e1,e2,e3⟩:=e;exact(x.rest a o e1 (d4 n)).elim λsl e j=>⟨_,es,ep,e,e2,e3⟩
def Ext.cell{v:bq}(x:Ext FA H h H' h')(e:h.IsCell a v)(n:H a=none):h'.IsCell a v:=by
 obtain⟨o,e1,e2⟩:=e;exact(x.rest a o e1 (d4 n)).elim λsl e j=>⟨_,e,e2⟩
def Ext.grown{b:Addr}(k:∀a ob,h.get? a=some ob->h'.get? a=some ob)(n:h.get? b=none)(nb:H b=none):Ext FA H h (H.set b o) h':=
 ⟨λa ob e j=>.of (k a ob e),λa m e j=>(Hp.bj λz=>aI (z▸nb) e).trans e,λj e=>Hp.qE e,λa e=>(Hp.qF e).symm.imp_right λz=>by rw[z];exact n⟩
def Rel.grown{b:Addr}{tk:Nat}(R:Rel P base os H s)(k:∀a ob,s.heap.get? a=some ob->h'.get? a=some ob)(n:s.heap.get? b=none)(hs:je P h' b o):Rel P base os (H.set b o) {s with heap:=h',toks:=tk}:=
 ⟨λa m e=>(Hp.jY e).elim (λz=>(z.1▸z.2▸hs)) λz=>(R.objs a m z.2).kept (k a),
  λa m e q=>(Hp.jY e).elim (λz=>is_none λj e=>aI (z.1▸n) (R.stays _ _ e)) λz=>R.own a m z.2 q,λb o e=>k b o (R.stays b o e),R.gens,R.os⟩
def Rel.alloc(R:Rel P base os H s)(ob:Obj)(o:MO)(hs:je P (s.heap.push ob) s.heap.objs.size o)(tk:Nat):
  Rel P base os (H.set s.heap.objs.size o) {s with heap:=s.heap.push ob,toks:=tk}:=R.grown (λj j e=>cU _ e) (eW _) hs
def Ext.alloc(R:Rel P base os H s)(FA:bJ)(ob:Obj)(o:MO)(hs:je P (s.heap.push ob) s.heap.objs.size o):
  Ext FA H s.heap (H.set s.heap.objs.size o) (s.heap.push ob):=.grown (λj j e=>cU _ e) (eW _) (R.fresh (eW _))
def Rel.put(R:Rel P base os H s)(ha:H a=some o)(hm:o.mut=true)(hs:Heap.SameBut a s.heap h')(ho:je P h' a o')(tk:Nat):Rel P base os (H.set a o') {s with heap:=h',toks:=tk}:=
 ⟨λb m e=>(Hp.jY e).elim (λz=>(z.1▸z.2▸ho)) λz=>(R.objs b m z.2).at (hs.2 b z.1),
  λb m e q=>(Hp.jY e).elim (λz=>(z.1▸R.own a o ha hm)) λz=>R.own b m z.2 q,
  λb ob e=>(hs.2 b λz=>aI (R.own b o (z▸ha) hm) e).trans (R.stays b ob e),R.gens,R.os⟩
def Ext.put(FA:bJ)(ha:H a=some o)(hm:o.mut=true)(hs:Heap.SameBut a h h'):Ext FA H h (H.set a o') h':=
 ⟨λb ob e q=>.of ((hs.2 b λz=>Bool.noConfusion (hm.symm.trans (q o (z▸ha)))).trans e),
  λb m e q=>(Hp.bj λz=>by rw[z,ha]at e;obtain rfl:=ar e;rw[hm]at q;exact Qu q).trans e,λb e=>Hp.qE e,
  λb e=>.inl ((Hp.qF e).elim (λz=>by rw[z];exact jC ha) id)⟩
def Rel.more(R:Rel P base os H s)(tk:Nat)(k:∀b o,s.heap.get? b=some o->h'.get? b=some o):Rel P base os H {s with heap:=h',toks:=tk}:=
 ⟨λa m e=>(R.objs a m e).kept (k a),R.own,λb o e=>k b o (R.stays b o e),R.gens,R.os⟩
def Ext.more(FA:bJ)(k:∀b o,h.get? b=some o->h'.get? b=some o):Ext FA H h H h':=
 ⟨λa o e j=>.of (k a o e),λj j e j=>e,λj e=>e,λj e=>.inl e⟩
def Rel.toks(R:Rel P base os H s)(tk:Nat):Rel P base os H {s with toks:=tk}:=R.more tk λj j e=>e
def Rel.other{L:Addr}(R:Rel P base os H s)(tk:Nat)(hL:H L=none)(hb:base.get? L=none)(hs:Heap.SameBut L s.heap h'):Rel P base os H {s with heap:=h',toks:=tk}:=
 ⟨λa m e=>(R.objs a m e).at (hs.2 a λz=>aI (z▸hL) e),R.own,λb o e=>(hs.2 b λz=>aI (z▸hb) e).trans (R.stays b o e),R.gens,R.os⟩
end
structure FnHd(base:Heap)(a:Addr)(f:Fn)(fd:FuncData)(bd:List Stmt):Prop where
 obj:∃o,base.get? a=some o/\o.data=.func fd
 body:fd.body=.stmts bd
 glob:fd.globals=mainGlobals
 blt:fd.builtins=builtinsNs
 clo:fd.closure=[]
 code:base.CodeRec fd.code fd.qualname
 hd:A3 f fd.params fd.scope=true
 dflt:(fd.defaults=.none/\f.fR=[])\/∃T oT items n,fd.defaults=.ref T/\base.get? T=some oT/\oT.data=.seq items n/\items.toList.map er=f.fR
 Jp:f.fR.length<=f.params
def yR(c:Sc)(i:Nat)(n:Str):Prop:=eP n=true/\Et (c.names.lookup n)=true/\c.im.lookup n=some i
inductive rI(c:Sc):List Stmt->Prop
 |mk (vp ap s sp r rp p ep s2 sq p2 r3 p3 q):ap.endLine=p.line->c.names.lookup (ofString "ValueError")=some .globalImplicit->yR c 0 s->yR c 1 r->yR c 0 s2->yR c 1 r3->
  rI c [.Expr (.Call (.Attribute (.Name (ofString "ValueError") vp) (ofString "__init__") ap) [.Name s sp,.Name r rp] [] p) ep,.Assign [.Attribute (.Name s2 sq) (ofString "reason") p2] (.Name r3 p3) q]
def JJ:Fn:=⟨2,[str (ofString "")],2,.nil⟩
structure Fix where
 prog:Program
 w:World
 base:Heap
 os:OsState
 K:Frag
 tb:Tab
 X:K.In base
 lim:base.NoLimit
 Wu:∃o,base.get? sysModules=some o
 mg:Str->bq
 mb:Str->bq
 hg:base.Ns mainGlobals mg
 hb:base.Ns builtinsNs mb
 gl:∀x v,gM.lookup x=some v->mg x=some v
 bl:∀x v,gM.lookup x=none->kJ.lookup x=some v->mg x=none/\mb x=some v
 Wv:∀a,tb.kind a=.fn->keepIn K (.ref a)=true/\typeIn K (.ref a)=some (.type "function")/\∃o,base.get? a=some o/\o.cls=.type "function"
 Ww:∀c n f,tb.jU c n=some f->tb.kind f=.fn/\(c∈iU->findIn K (.ref c) n=some (some (.ref f)))
 Wx:∀a i,tb.kind a=.cls i->keepIn K (.ref a)=true/\a∈iU/\makesIn K a=true/\findIn K (.ref a) "__init__"=some (some (.ref i))/\tb.kind i=.fn
 bad:hO base
 JK:findIn K (.ref 52) "__init__"=some (some (.ref 36))
 Wy:typeIn K (.ref 36)=some (.type "function")
 Qy:findIn K (.ref 52) "__setattr__"=some (some (.builtin "object.__setattr__"))
 JL:takerIn K 52 "reason"=some none
 JM:hasDictIn K 52=true
 Wz:∃fd bd,FnHd base 36 JJ fd bd/\rI ⟨kh fd.scope,fd.scope.names⟩ bd
 Qz:∀c∈iU,plainGet K c Str.empty=true/\hasDictIn K c=true/\(∀a:At,∃attr,findIn K (.ref c) a.str=some attr/\noGet K attr=true)/\findIn K (.ref c) "__setattr__"=some (some (.builtin "object.__setattr__"))/\plainOver K c=true/\∀a:At,takerIn K c a.str=some none
noncomputable abbrev Fix.M(F:Fix):Model:=model F.prog F.w
abbrev Fix.R(F:Fix)(H:Hp)(s:Shared):Prop:=Rel (F.prog,F.w) F.base F.os H s
noncomputable def nL(fr:List Env):bJ:=fr.filterMap (·.frame)
inductive WA(fr:List Env)(h0:Heap)(H':Hp)(x:Addr)(h:Heap)(T:Addr):Prop
 |mk (oT ts):h0.get? T=none->H' T=none->T≠x->h.get? T=some oT->oT.data=.fields ts->(ts[3]? =some .none\/∃L,(fr.head?.bind (·.frame))=some L/\ts[3]? =some (rawInt L))->WA fr h0 H' x h T
inductive uX(fr:List Env)(h0:Heap)(H':Hp):Value->Heap->Prop
 |mk (x oe vs a0 h):h0.get? x=none->H' x=none->h.get? x=some oe->oe.cls=.ref 52->oe.data=.fields vs->vs[0]? =some a0->
  (vs[1]? =some .none\/∃T,vs[1]? =some (.ref T)/\WA fr h0 H' x h T)->uX fr h0 H' (.ref x) h
def WA.back{fr:List Env}{h0 h1:Heap}{H':Hp}{x:Addr}{h:Heap}{T:Addr}(k:∀a,h1.get? a=none->h0.get? a=none)(t:WA fr h1 H' x h T):WA fr h0 H' x h T:=by
 cases t with
 |mk oT ts a b c d e f=>exact⟨oT,ts,k _ a,b,c,d,e,f⟩
def uX.back{fr:List Env}{h0 h1:Heap}{H':Hp}{e:Value}{h:Heap}(k:∀a,h1.get? a=none->h0.get? a=none)(t:uX fr h1 H' e h):uX fr h0 H' e h:=by
 cases t with
 |mk x oe vs a0 _ a b c d e f g=>exact⟨x,oe,vs,a0,_,k _ a,b,c,d,e,f,g.imp_right λz=>z.imp λT z=>⟨z.1,z.2.back k⟩⟩
inductive Fix.p6(F:Fix){α:Type}(fr:List Env)(H:Hp)(h:Heap)(Q:α->bA)(v:α)(s':Shared):Prop
 |mk (H'):Q v H'->F.R H' s'->Ext (nL fr) H h H' s'.heap->Fix.p6 F fr H h Q v s'
inductive Fix.XP(F:Fix)(fr:List Env)(H:Hp)(h:Heap)(X:bA)(e:Value)(s':Shared):Prop
 |mk (H'):X H'->F.R H' s'->Ext (nL fr) H h H' s'.heap->uX fr h H' e s'.heap->Fix.XP F fr H h X e s'
structure Frs(F:Fix)(A:Around)(fr:List Env)(H:Hp)(h:Heap):Prop where
 stack:A.frames=some fr
 ow:h.FunFrames F.base fr
 off:∀L∈nL fr,H L=none
 handled:A.handled=none
inductive lQ(F:Fix)(env:Env)(ρ:aS)(H:Hp)(h:Heap)(x:Str)(i:Nat):Prop
 |mk (a v'):env.cells.lookup x=some a->H a=none->F.base.get? a=none->h.IsCell a v'->(∀v,ρ[i]? =some (some v)->∃u,v'=some u/\er u=v)->lQ F env ρ H h x i
inductive wG(env:Env)(c:Sc)(ρ:aS)(h:Heap):Prop
 |mk (m):h.Ns env.locals m->(∀x i v,c.im.lookup x=some i->c.names.lookup x=some .local->ρ[i]? =some (some v)->∃v',m x=some v'/\er v'=v)->wG env c ρ h
structure lF(F:Fix)(env:Env)(fr:List Env)(c:Sc)(ρ:aS)(H:Hp)(h:Heap):Prop where
 frame:fr≠[]/\env.frame=fr.head?.bind (·.frame)
 kind:env.scope.kind=.function
 knd:∀x k,c.names.lookup x=some k->(k=.local->env.kindOf x=some .local)/\(k=.globalImplicit->env.kindOf x=some .globalImplicit)/\((k=.cell\/k=.free)->env.kindOf x=some .cell\/env.kindOf x=some .free)
 glob:env.globals=mainGlobals
 blt:env.builtins=builtinsNs
 off:H env.locals=none
 new:F.base.get? env.locals=none
 ns:wG env c ρ h
 cells:∀x i,c.im.lookup x=some i->(c.names.lookup x=some .cell\/c.names.lookup x=some .free)->lQ F env ρ H h x i
section
variable{F:Fix}{A:Around}{fr:List Env}{env:Env}{c:Sc}{ρ:aS}{H H':Hp}{h h':Heap}{FA:bJ}{X:bA}
def Ext.off(x:Ext FA H h H' h'){a:Addr}(n:H a=none){ob:Obj}(l:h.get? a=some ob):H' a=none:=
 is_none λj e=>(x.fresh a (jC e)).elim (λz=>z n) λz=>aI z l
theorem jD{base:Heap}:∀{l:List Env},(∀L∈nL l,∀o,h.get? L=some o->(∀vs,o.data≠.fields vs)->∃o',h'.get? L=some o'/\∀vs,o'.data≠.fields vs)->h.FunFrames base l->h'.FunFrames base l
 |[],_,_=>trivial|e::r,k,⟨q,⟨L,o,e1,e2,e3,e4⟩,z⟩=>by
  have m:nL (e::r)=L::nL r:=by unfold nL;rw[List.filterMap_cons,e1]
  have k:=m▸k;exact⟨q,(k L (.head _) o e3 e4).elim λo' y=>⟨L,o',e1,e2,y⟩,jD (λL' m'=>k L' (.tail _ m')) z⟩
def Frs.ext(f:Frs F A fr H h)(x:Ext (nL fr) H h H' h'):Frs F A fr H' h':=
 ⟨f.stack,jD (λL m o e d=>(x.data e (d4 (f.off L m))).elim λo' y=>⟨o',y.1,by rw[y.2.1];exact d⟩) f.ow,λL hL=>(f.ow.mem hL).2.elim λo y=>x.off (f.off L hL) y.1,f.handled⟩
def QA{a:Addr}{m:Str->bq}(n:h.Ns a m):∃o,h.get? a=some o:=n.elim λo z=>z.elim λj z=>z.elim λj z=>⟨o,z.1⟩
def EE{a:Addr}{v:bq}(n:h.IsCell a v):∃o,h.get? a=some o:=n.imp λj z=>z.1
def lQ.ext{x:Str}{i:Nat}(b:lQ F env ρ H h x i)(y:Ext FA H h H' h'):lQ F env ρ H' h' x i:=by
 cases b with
 |mk a v' e n q z k=>exact⟨a,v',e,(EE z).elim λj g=>y.off n g,q,y.cell z n,k⟩
def wG.ext(b:wG env c ρ h)(n:H env.locals=none)(x:Ext FA H h H' h'):wG env c ρ h':=by
 cases b with
 |mk m e k=>exact⟨m,x.ns e n,k⟩
def wG.get(b:wG env c ρ h):∃o,h.get? env.locals=some o:=by
 cases b with
 |mk m e k=>exact QA e
def lF.ext(b:lF F env fr c ρ H h)(x:Ext FA H h H' h'):lF F env fr c ρ H' h':=
 ⟨b.frame,b.kind,b.knd,b.glob,b.blt,b.ns.get.elim λj e=>x.off b.off e,b.new,b.ns.ext b.off x,λy i e q=>(b.cells y i e q).ext x⟩
def p6.ext{α:Type}{Q:α->bA}{v:α}(x:Ext (nL fr) H h H' h'){s':Shared}(p:F.p6 fr H' h' Q v s'):F.p6 fr H h Q v s':=by
 cases p with
 |mk JI q R y=>exact⟨JI,q,R,x.trans y⟩
def gw{P base os}{s':Shared}(R:Rel P base os H' s')(x:Ext FA H h H' s'.heap){a:Addr}(n:s'.heap.get? a=none):h.get? a=none:=
 (x.back n).elim (λz=>absurd (R.fresh n) (x.ym a z)) id
def XP.ext{s₁:Shared}(R:F.R H' s₁)(x:Ext (nL fr) H h H' s₁.heap){e:Value}{s':Shared}(p:F.XP fr H' s₁.heap X e s'):F.XP fr H h X e s':=by
 cases p with
 |mk JI q R' y i=>exact⟨JI,q,R',x.trans y,i.back λj=>gw R x⟩
end
structure Pt where
 F:Fix
 A:Around
 fr:List Env
 H:Hp
 s:Shared
 N:Nat
 R:F.R H s
 hf:Frs F A fr H s.heap
 hd:A.depth+2*N<=978
 hu:A.units+50*N<=9750
abbrev Er(Q:dm):Value->Hp->Prop:=λv h=>Q (er v) h
abbrev Pt.fk(K:Pt){α:Type}(Q:α->bA):α->bW:=K.F.p6 K.fr K.H K.s.heap Q
abbrev Pt.Exc(K:Pt)(X:bA):Value->bW:=K.F.XP K.fr K.H K.s.heap X
def Pt.Wp(K:Pt){α:Type}(t:Sem α)(Q:α->bA)(X:bA):Prop:=wpAny K.F.M K.A t (K.fk Q) (K.Exc X) K.s
structure Nx(K:Pt)where
 H:Hp
 s:Shared
 R:K.F.R H s
 x:Ext (nL K.fr) K.H K.s.heap H s.heap
@[reducible] def Nx.p{K:Pt}(n:Nx K):Pt:={K with H:=n.H,s:=n.s,R:=n.R,hf:=K.hf.ext n.x}
section
variable{α β:Type}{K:Pt}{Q:α->bA}{X:bA}{t:Sem α}
def Pt.post{v:α}(q:Q v K.H)(tk:Nat):K.fk Q v {K.s with toks:=tk}:=⟨K.H,q,K.R.toks tk,Ext.refl _ _ _⟩
def Pt.fin{Q:dm}{v w:Value}(q:Q w K.H)(e:er v=w)(tk:Nat):K.fk (Er Q) v {K.s with toks:=tk}:=K.post (by subst e;exact q) tk
def Pt.nM{Q:dm}{v w:Value}(q:Q w K.H)(e:er v=w):K.fk (Er Q) v K.s:=K.fin q e K.s.toks
def Pt.here{v:α}(q:Q v K.H):K.fk Q v K.s:=⟨K.H,q,K.R,Ext.refl _ _ _⟩
def Pt.new{Q:dm}(ob:Obj)(o:MO)(hs:je (K.F.prog,K.F.w) (K.s.heap.push ob) K.s.heap.objs.size o)(hw:dj o K.H Q)(tk:Nat):K.fk (Er Q) (.ref K.s.heap.objs.size) {K.s with heap:=K.s.heap.push ob,toks:=tk}:=
 ⟨K.H.set K.s.heap.objs.size o,hw _ (K.R.fresh (eW _)),K.R.alloc ob o hs tk,.alloc K.R _ ob o hs⟩
def Nx.post{n:Nx K}{v:α}{s':Shared}(p:n.p.fk Q v s'):K.fk Q v s':=p6.ext n.x p
def Nx.exc{n:Nx K}{e:Value}{s':Shared}(p:n.p.Exc X e s'):K.Exc X e s':=XP.ext n.R n.x p
def Pt.mono{P:α->bA}{Q:α->bW}{E:gp}(h:K.Wp t P X)(k:∀v (n:Nx K),P v n.H->Q v n.s)(e:∀v s,K.Exc X v s->E v s):wpAny K.F.M K.A t Q E K.s:=
 aJ h (λv s1 ⟨H1,p,R1,x1⟩=>k v ⟨H1,s1,R1,x1⟩ p) e
def Pt.seq{f:α->Sem β}{P:α->bA}{Q:β->bA}(h:K.Wp t P X)(k:∀v (n:Nx K),P v n.H->n.p.Wp (f v) Q X):K.Wp (t>>=f) Q X:=
 ae (K.mono h (λv n p=>aJ (k v n p) (λj j=>n.post) λj j=>n.exc) λj j=>id)
def Pt.weak{P:α->bA}(h:K.Wp t P X)(k:∀v h,P v h->Q v h):K.Wp t Q X:=K.mono h (λv n p=>⟨n.H,k _ _ p,n.R,n.x⟩) λj j=>id
def Pt.pure{v:α}(q:Q v K.H):K.Wp (pure v) Q X:=ax (K.here q)
def Pt.d5{p:Pos}{f:Unit->Sem α}(h:K.Wp (f ()) Q X):K.Wp (standAt p>>=f) Q X:=ae (fb h)
def Pt.hold{vs:ai}(h:K.Wp t Q X):K.Wp (holding vs t) Q X:=bF h
def Pt.QB{vs:ai}{t:Sem Value}{Q:dm}(h:K.Wp t Q X):K.Wp (operate vs t) Q X:=wpAny_operate' h
end
section
variable{v:Value}{C:hJ}{PI:Int->Prop}{PS:Str->Prop}{PR:Addr->Prop}
@[elab_as_elim] def oy(h:gG (er v) PI PS PR)(ki:∀i t,PI i->C (.int i t))(ks:∀s t,PS s->C (.str s t))(kr:∀a,PR a->C (.ref a)):C v:=by cases v<;>first|exact h.elim|exact ki _ _ h|exact ks _ _ h|exact kr _ h
@[elab_as_elim] def isBool{P:Bool->Prop}(h:dh (er v) P)(k:∀b,P b->C (.bool b)):C v:=by cases v<;>first|exact h.elim|exact k _ h
@[elab_as_elim] def isInt(h:gu (er v) PI)(k:∀i t,PI i->C (.int i t)):C v:=by cases v<;>first|exact h.elim|exact k _ _ h
@[elab_as_elim] def isStr(h:onStr (er v) PS)(k:∀i t,PS i->C (.str i t)):C v:=by cases v<;>first|exact h.elim|exact k _ _ h
@[elab_as_elim] def isRef(h:bp (er v) PR)(k:∀a,PR a->C (.ref a)):C v:=by cases v<;>first|exact h.elim|exact k _ h
@[elab_as_elim] def isNone(h:lI (er v)=true)(k:C .none):C v:=by cases v<;>first|exact k|exact absurd h c8
@[elab_as_elim] def QC{i:Int}{t:Tok}(h:er v=.int i t)(k:∀u,C (.int i u)):C v:=@isInt v C (i=·) (by rw[h];exact rfl) λj t e=>by subst e;exact k t
def yS{a:Addr}(h:er v=.ref a):v=.ref a:=@isRef v (λv=>v=.ref a) (a=·) (by rw[h];exact rfl) λj e=>by subst e;rfl
def uY(h:er v=.none):v=.none:=@isNone v (λv=>v=.none) (by exact ak _ h) rfl
end
section
variable{F:Fix}{H:Hp}{s:Shared}
def JN(R:F.R H s){a:Addr}{xs:ai}(h:H a=some (.list xs)):∃items:Array Value,s.heap.IsList a items/\items.toList.map er=xs/\items.size=xs.length:=
 let⟨items,e1,e2,_⟩:=R.objs a _ h
 ⟨items,e1.isList,e2,by rw[<-e2,au,cL]⟩
def fo(R:F.R H s){a:Addr}{xs:ai}(h:H a=some (.list xs)):∃(items:Array Value)(n:Nat),s.heap.get? a=some {cls:=.type "list",data:=.seq items n}/\items.toList.map er=xs/\items.size=xs.length/\xs.length<=aq:=
 let⟨items,⟨n,e1⟩,e2,e3⟩:=R.objs a _ h
 ⟨items,n,e1,e2,by rw[<-e2,au,cL],e3⟩
end
def EF{vs:ai}{n:Nat}(h:vs.length<=n):(vs.map er).length<=n:=by rw[au];exact h
def JO(h:Heap)(vs:Array Value):(h.push {cls:=.type "list",data:=.seq vs}).PlainList h.objs.size vs:=⟨_,fa _ rfl⟩
section
variable{K:Pt}{Q:dm}{X:bA}
def Pt.CG{vs:Array Value}{xs:ai}(e:vs.toList.map er=xs)(hl:xs.length<=aq)(hw:dj (.list xs) K.H Q)(tk:Nat):K.fk (Er Q) (.ref K.s.heap.objs.size) {K.s with heap:=K.s.heap.push {cls:=.type "list",data:=.seq vs},toks:=tk}:=
 K.new _ (.list xs) ⟨vs,JO _ _,e,hl⟩ hw tk
def Pt.WB{vs:Array Value}{xs:ai}(e:vs.toList.map er=xs)(hl:xs.length<=aq)(hw:dj (.tup xs) K.H Q)(tk:Nat):K.fk (Er Q) (.ref K.s.heap.objs.size) {K.s with heap:=K.s.heap.push {cls:=.type "tuple",data:=.seq vs},toks:=tk}:=
 K.new _ (.tup xs) ⟨vs,fa _ rfl,e,hl⟩ hw tk
def Pt.list{vs:ai}(hl:vs.length<=aq)(hw:dj (.list (vs.map er)) K.H Q):K.Wp (newList vs) (Er Q) X:=
 wpAny_newList (K.CG (vs:=vs.toArray) rfl (EF hl) hw _) hl
def Pt.tup{vs:ai}(hl:vs.length<=aq)(hw:dj (.tup (vs.map er)) K.H Q):K.Wp (newTuple vs) (Er Q) X:=
 wpAny_newTuple (K.WB (vs:=vs.toArray) rfl (EF hl) hw _) hl
def Pt.neg{i:Int}{t:Tok}(hw:Q (int (-i)) K.H):K.Wp (unaryOp .USub (.int i t)) (Er Q) X:=
 P.neg_int (K.fin hw rfl _)
variable{op:Operator}
def JP{a b:Addr}(w:Ee op a K.H Q b):K.Wp (binaryOp op (.ref a) (.ref b)) (Er Q) X:=by
 obtain⟨xs,ys,rfl,e1,e2,hl,hw⟩:=w;obtain⟨i1,n1,o1,rfl,z1,_⟩:=fo K.R e1;obtain⟨i2,n2,o2,rfl,z2,_⟩:=fo K.R e2;refine concat_meets ⟨_,o1,rfl⟩ ⟨_,o2,rfl⟩ noFill_list_add seq_list_add PySem.F.slot_list_add PySem.F.entry_list_add (PySem.F.args_list_add_2 _ _) (list_addW a b i1 i2 n1 n2 _ _ _ _ ?_) ⟨o1,o2,K.CG (vs:=i1++i2) ?_ hl hw _⟩
 ·rw[z1,z2,<-aE];exact hl
 ·rw[Array.toList_append,bM]
def WC{n:Int}(w2:n.natAbs<2^62):¬(!Builtin.List.listFitsIndex n)=true:=by
 simp[Builtin.List.listFitsIndex];exact⟨Int.neg_le_of_neg_le (Int.le_trans (Int.natAbs_neg n▸Int.le_natAbs) (eU.mpr (aa (cM w2) aP))),Int.lt_of_le_of_lt Int.le_natAbs (Int.ofNat_lt.mpr (Nat.lt_trans w2 aP))⟩
def WD{n:Nat}(w2:n<=sizeLine):¬n>(2^63-1)/8:=Nat.not_lt.mpr (aa w2 aP)
def WE{n:Nat}(w2:n<=sizeLine):¬Builtin.List.listTooLong n=true:=by simp[Builtin.List.listTooLong];exact w2
def JQ{a:Addr}{n:Int}{t:Tok}(w:Ed op a K.H Q n):K.Wp (binaryOp op (.ref a) (.int n t)) (Er Q) X:=by
 obtain⟨xs,rfl,e1,w1,w2,hw⟩:=w;obtain⟨it,k,ho,rfl,z1,_⟩:=fo K.R e1;have QD:it.size*n.toNat<=sizeLine:=by rw[z1];exact w1
 clear z1;refine wpAny_binaryOp_repeat_ref (T:="list") (U:="int") aP ⟨_,ho,rfl⟩ (λs'=>typeIs_int s' n t) noFill_list_mul PySem.F.fills_int_mul PySem.F.slot_int_rmul repeat_list PySem.F.slot_int_index.lookup
  (call_meets PySem.F.slot_int_rmul (typeIs_int K.s n t) PySem.F.entry_int_rmul (PySem.F.args_int_rmul_2 _ _) (lm_int_rmul_list_any n t a it k _ _)
   ⟨ho,rfl,⟨_,ho,rfl⟩,call_meets PySem.F.slot_list_mul ⟨_,ho,rfl⟩ PySem.F.entry_list_mul (PySem.F.args_list_mul_2 _ _)
    (lm_list_mul_any a it k _ _ n t (WC w2) (WD QD) (WE QD)) ⟨ho,K.CG ?_ (by rw[lm_len_rep_flat,Nat.mul_comm];exact w1) hw _⟩⟩)
 rw[listMul_foldl_if];simp[List.map_flatten]
def JR{a b:Int}{t u:Tok}(w:pd op a b K.H Q):K.Wp (binaryOp op (.int a t) (.int b u)) (Er Q) X:=by
 cases op with
 |Add=>exact P.add_int (K.fin w rfl _)|Sub=>exact P.sub_int (K.fin w rfl _)|Mult=>exact P.mul_int (K.fin w.2 rfl _) (w.1.elim (λz=>.of_left (intBits_le_64 (by lia) (by lia))) λz=>.of_right (intBits_le_64 (by lia) (by lia)))|FloorDiv=>exact floordiv_int w.1 (K.fin w.2.2 rfl _) (.inl (PyProof.noPylong_small w.2.1))|Mod=>exact mod_int' w.1 (K.fin w.2 rfl _)|Pow=>exact pow_int_small w.1 (Int.le_trans w.2.1 aP) w.2.2.1 (K.fin w.2.2.2 rfl _)|_=>exact w.elim
def JS{a b:Str}{t u:Tok}(w:AW op a K.H Q b):K.Wp (binaryOp op (.str a t) (.str b u)) (Er Q) X:=by
 cases w.1;exact add_str (λj j=>K.fin w.2.2 rfl _) w.2.1
def Pt.bin{v u:Value}(hw:lJ op (er v) (er u) K.H Q):K.Wp (binaryOp op v u) (Er Q) X:=
 oy hw (λj j w=>isInt w λj j w=>JR w) (λj j w=>isStr w λj j w=>JS w) λj w=>oy w (λj j w=>JQ w) (λj j w=>w.elim) λj w=>JP w
end
noncomputable def OY:List At:=[.op,.a,.b,.c,.line,.sort,.first,.last,.target,.depth,.kind,.name,.params,.slots,.rows,.hY,.children,.starts,.number,.code,.seen,.gF,.waiting]
def tU(a:At):a∈OY:=List.contains_iff_mem.mp (by cases a<;>rfl)
def wH:(OY.map At.str).Nodup:=by decide+kernel
theorem tV{α β:Type}{f:α->β}{a b:α}:∀{l:List α},(l.map f).Nodup->a∈l->b∈l->f a=f b->a=b
 |x::l,n,ha,hb,e=>by
  have n:=nr n;rcases fY ha with z|z<;>rcases fY hb with y|y
  ·rw[z,y]
  ·exact absurd (jb ⟨b,y,by rw[<-e,z]⟩) n.1
  ·exact absurd (jb ⟨a,z,by rw[e,y]⟩) n.1
  ·exact tV n.2 z y e
def At.inj{a b:At}(e:a.str=b.str):a=b:=tV wH (tU a) (tU b) e
def lookup_cons{α β:Type}[BEq α][LawfulBEq α](x a:α)(v:β)(l:List (α×β)):((a,v)::l).lookup x=bif x==a then some v else l.lookup x:=by
 show(match x==a with|true=>some v|false=>l.lookup x)=_
 cases x==a<;>rfl
def yT(a:At)(v:Value)(fs:List (At×Value))(x:Str):nsMap ((a,v)::fs) x=bif a.str==x then some v else nsMap fs x:=by
 show Option.map _ (match a.str==x with|true=>some (a,v)|false=>fs.find? λp=>p.1.str==x)=_
 cases a.str==x<;>rfl
theorem kL(a:At):∀fs:List (At×Value),nsMap fs a.str=fs.lookup a
 |[]=>rfl|(b,v)::fs=>by
  rw[yT,lookup_cons,kL a fs];by_cases h:a=b
  ·rw[h,cW,cW]
  ·rw[dQ.mpr h,dQ.mpr λe=>h (At.inj e.symm)]
def JT{es:List DictEntry}{x:Str}{v:Value}(h:nsFind es.toArray x=some v):getL x es=some (some v):=by
 unfold nsFind findBy at h;unfold getL;rw[List.find?_toArray]at h;cases hf:es.find? (λe=>e.key.isStr x)with
 |none=>rw[hf]at h;exact eA h|some e=>rw[hf]at h;obtain rfl:=ar h;rfl
def CH{v:Value}(hw:handed (er v)=true):handedIn v=true:=by cases v<;>first|rfl|exact absurd hw c8
def map_some{α β:Type}{f:α->β}{o:Option α}{b:β}(h:o.map f=some b):∃a,o=some a/\f a=b:=by
 cases o with
 |none=>exact eA h|some a=>exact⟨a,rfl,ar h⟩
section
variable{K:Pt}{Q:dm}{X:bA}
def JU{a:At}{x:Addr}(hw:yz a K.H Q x):K.Wp (getAttr (.ref x) a.str true) (Er Q) X:=by
 obtain⟨cl,d,fs,w,h1,h2,h3,h4,hq⟩:=hw;obtain⟨r1,D8⟩:=K.R.objs x _ h1;obtain⟨es,n,r2,r3,r4,_⟩:=K.R.objs d _ h2;have c:=K.F.Qz cl D8;obtain⟨attr,c4,c5⟩:=c.2.2.1 a;obtain⟨v,hv,rfl⟩:=map_some ((r4 a.str).trans ((kL a fs).trans h3));exact get_value (K.F.X.keeps K.R.stays) (show PySem.W.InstAt _ x (instObj cl d) cl (some (PySem.W.dictOf es n))from⟨r1,rfl,rfl,r2⟩) (plainGet_of c.1).1 (findObj_own c.2.1 c4 c5 (JT hv)) (CH h4) (K.fin hq rfl _)
def Pt.attr{v:Value}{a:At}(hw:uK (er v) a K.H Q):K.Wp (getAttr v a.str true) (Er Q) X:=isRef hw λj w=>JU w
def QE{M:Model}{A:Around}{E:gp}{s:Shared}{o:Value}{T id:String}{P:Bool->bW}(hT:s.TypeIs o T)(hl:typeLookup (.type T) "__getitem__"=pure (some (.builtin id)))(h:P false s):wpAny M A (getitemInPython o) P E s:=by
 rw[getitemInPython_of_ne hT.not_modules];exact ae (wpAny_specialOf hT hl (ax h))
def gN{slice:Expr}(hs:isSlice slice=false)(o i:Value):subscripted slice false o i=operate [o,i] (getItem o i):=by cases slice<;>first|exact absurd hs.symm c8|exact Eq.refl (operate [o,i] (getItem o i))
def wI{items:Array Value}{j:Nat}{x:Value}(hx:(items.toList.map er)[j]? =some x):∃v,items[j]? =some v/\er v=x:=by
 rw[cy]at hx;obtain⟨v,e,q⟩:=map_some hx;exact⟨v,by rw[<-Array.getElem?_toList];exact e,q⟩
def pA{n:Nat}{k:Int}{j:Nat}(h:place n k=some j)(h0:0<=k):k<n/\j=k.toNat:=by
 unfold place at h;rw[av h0]at h;by_cases h1:k<n
 ·rw[av h1]at h;exact⟨h1,(ar h).symm⟩
 ·rw[aB h1]at h;exact eA h
def pB{n:Nat}{k:Int}{j:Nat}(h:place n k=some j)(h0:¬0<=k):0<=k+n/\j=(k+n).toNat:=by
 unfold place at h;rw[aB h0]at h;by_cases h1:0<=k+n
 ·rw[av h1]at h;exact⟨h1,(ar h).symm⟩
 ·rw[aB h1]at h;exact eA h
def pC{n:Nat}{k:Int}{j:Nat}(h:place n k=some j):seqIndex? k n=some j:=by
 unfold seqIndex?;by_cases h0:0<=k
 ·obtain⟨h1,rfl⟩:=pA h h0;simp[Int.not_lt.mpr h0,h0,h1]
 ·obtain⟨h1,rfl⟩:=pB h h0;have:k<0:=by lia
  have h2:k+n<n:=by lia
  simp[this,h1,h2]
end
inductive jf(h:Heap)(a:Addr)(items:Array Value):Prop
 |list:h.IsList a items->jf h a items
 |tup:IsTup h a items->jf h a items
inductive A6(P:Program×World)(h:Heap)(a:Addr):cC->Prop|mk (kvs):h.DictOf (strKind P.1 P.2) a kvs->a≠sysModules->A6 P h a (kvs.map (λp=>(p.1,er p.2)))
def aX{α:Type}(o:Option α)(C:α->Prop):Prop:=match o with|some x=>C x|none=>True
def az{α:Type}{o:Option α}{C:α->Prop}{x:α}(h:aX o C)(e:o=some x):C x:=by rw[e]at h;exact h
def pD(v:Value):aX (nu (er v)) λi=>∃t,v=.int i t:=by cases v<;>first|exact trivial|exact⟨_,rfl⟩
def CI(v:Value):aX (n8 (er v)) λi=>∃t,v=.str i t:=by cases v<;>first|exact trivial|exact⟨_,rfl⟩
def kj(v:Value):aX (fQ (er v)) λa=>v=.ref a:=by cases v<;>first|exact trivial|exact rfl
section
variable{F:Fix}{H:Hp}{s:Shared}{a:Addr}{xs:ai}
def lO.mono{S S':Array Value->Prop}(x:lO S xs)(k:∀i,S i->S' i):lO S' xs:=by
 cases x with
 |mk i a b c=>exact⟨i,k i a,b,c⟩
def JV{P:Program×World}{h:Heap}{o:MO}(r:je P h a o):aX (dP (some o)) (lO (jf h a))/\aX (listOf (some o)) (lO (h.IsList a))/\aX (dictOf (some o)) (A6 P h a):=by
 cases o with
 |list xs=>exact⟨lO.mono r λj z=>.list z.isList,lO.mono r λj z=>z.isList,trivial⟩|ro xs=>exact⟨lO.mono r λj z=>.list z,r,trivial⟩|tup xs=>exact⟨lO.mono r λj z=>.tup ⟨_,z,rfl,_,rfl⟩,trivial,trivial⟩|dict es=>obtain⟨kvs,e1,rfl,e3⟩:=r;exact⟨trivial,trivial,kvs,e1,e3⟩|ir es=>obtain⟨kvs,e1,rfl,e3⟩:=r;exact⟨trivial,trivial,kvs,e1,e3⟩|_=>exact⟨trivial,trivial,trivial⟩
def yU(R:F.R H s)(a:Addr):aX (dP (H a)) (lO (jf s.heap a))/\aX (listOf (H a)) (lO (s.heap.IsList a))/\aX (dictOf (H a)) (A6 (F.prog,F.w) s.heap a):=by
 cases e:H a with
 |none=>exact⟨trivial,trivial,trivial⟩|some o=>exact JV (R.objs a o e)
def lS(R:F.R H s)(h:dP (H a)=some xs):lO (jf s.heap a) xs:=az (yU R a).1 h
def jg(R:F.R H s)(h:listOf (H a)=some xs):lO (s.heap.IsList a) xs:=az (yU R a).2.1 h
def oz(R:F.R H s){es:cC}(h:dictOf (H a)=some es):A6 (F.prog,F.w) s.heap a es:=az (yU R a).2.2 h
end
theorem jh(k:Str):∀kvs:cC,(valueAt kvs k).map er=keyOf (kvs.map λp=>(p.1,er p.2)) k
 |[]=>rfl|(a,v)::kvs=>by
  have ih:=jh k kvs;unfold valueAt keyOf at ih⊢;rw[List.map_cons,lookup_cons,<-ih,List.find?_cons];by_cases h:a=k
  ·rw[aZ h,h,cW];rfl
  ·rw[b9 h,dQ.mpr (b8 h)];rfl
section
variable{K:Pt}{Q:dm}{X:bA}
def jf.JW{s:Shared}{M:Model}{A:Around}{E:gp}{a:Addr}{items:Array Value}{P:Bool->bW}(q:jf s.heap a items)(h:P false s):wpAny M A (getitemInPython (.ref a)) P E s:=by
 cases q with
 |list q=>exact QE q.typeIs list_getitem_lookup h|tup q=>exact QE q.typeIs slot_tuple_getitem.lookup h
def wJ{prog:Program}{w:World}{A:Around}{s:Shared}{E:gp}{items:Array Value}{a:Addr}(h:jf s.heap a items)(hl:items.size<=2^24){k:Int}{t:Tok}{j:Nat}{x:Value}{P:gp}(hp:place items.size k=some j)(hx:items[j]? =some x)(hq:P x s):
  wpAny (model prog w) A (getItem (.ref a) (.int k t)) P E s:=by
 by_cases h0:0<=k
 ·obtain⟨p,rfl⟩:=pA hp h0
  cases h with
  |list h=>exact wpAny_getItem_list h h0 (by lia) hx hq|tup h=>exact getItem_tuple h (by lia) (by lia) (pC hp) hx hq
 ·obtain⟨p,rfl⟩:=pB hp h0
  cases h with
  |list h=>exact wpAny_getItem_list_neg h (by lia) (by lia) (by lia) hx hq|tup h=>exact getItem_tuple h (by lia) (by lia) (pC hp) hx hq
abbrev Idx(K:Pt)(slice:Expr)(v i:Value)(Q:dm)(X:bA):Prop:=wpAny K.F.M K.A (getitemInPython v) (λg s1=>wpAny K.F.M K.A (subscripted slice g v i) (K.fk (Er Q)) (K.Exc X) s1) (K.Exc X) K.s
variable{slice:Expr}(hs:isSlice slice=false)
include hs
def WG{s:Str}{k:Int}{t u:Tok}(w:uJ s K.H Q k):Idx K slice (.str s t) (.int k u) Q X:=by
 obtain⟨j,c,hl,h2,h3,hq⟩:=w;refine QE (typeIs_str _ _ _) slot_str_getitem.lookup ?_;rw[gN hs];have h:((-(2:Int)^63<=k)/\k<2^63):=by
  unfold aq at hl;by_cases h0:0<=k
  ·exact⟨Int.le_trans aP h0,Int.lt_trans (Int.lt_of_lt_of_le (pA h2 h0).1 (eU.mpr hl)) aP⟩
  ·exact⟨Int.le_trans (Int.le_trans aP (Int.neg_le_neg (eU.mpr hl))) (Int.le_of_add_le_add_right (show-(s.cps.size:Int)+s.cps.size<=k+s.cps.size by rw[Int.add_left_neg];exact(pB h2 h0).1)),Int.lt_trans (Int.not_le.mp h0) aP⟩
 exact wpAny_operating (P.getItem_str (by rw[Bool.or_eq_false_iff];exact⟨b9 (by first|exact Int.not_lt.mpr h.1|exact Int.not_le.mpr h.2|lia),b9 (by first|exact Int.not_le.mpr h.2|exact Int.not_lt.mpr h.1|lia)⟩) (by show(seqIndex? k s.cps.size).bind (s.cps[·]?)=some c;rw[pC h2];exact h3) (K.fin hq rfl _))
def WH{a:Addr}{k:Int}{u:Tok}(w:yu a K.H Q k):Idx K slice (.ref a) (.int k u) Q X:=by
 obtain⟨xs,x,j,h1,h2,h3,hq⟩:=w
 cases lS K.R h1 with
 |mk items q e hl=>
  subst e;obtain⟨y,hy,he⟩:=wI h3;rw[au,cL]at h2 hl;refine q.JW ?_;rw[gN hs];exact wpAny_operating (wJ q hl h2 hy (K.nM hq he))
def WI{a:Addr}{k:Str}{u:Tok}(w:yv a K.H Q k):Idx K slice (.ref a) (.str k u) Q X:=by
 obtain⟨es,x,h1,h2,hq⟩:=w
 cases oz K.R h1 with
 |mk kvs hd _=>
  obtain⟨y,hy,he⟩:=map_some ((jh k kvs).trans h2);refine QE hd.typeIs slot_dict_getitem.lookup ?_;rw[gN hs];exact wpAny_operating (wpAny_getItem_of (strKind_is K.F.prog K.F.w k u) hd.mapOf hy (K.fin hq he _))
def Pt.idx{v i:Value}(hw:hA (er v) (er i) K.H Q):Idx K slice v i Q X:=
 oy hw (λj j w=>w.elim) (λj j w=>isInt w λj j w=>WG hs w) λj w=>oy w (λj j w=>WH hs w) (λj j w=>WI hs w) λj w=>w.elim
end
def yV{α:Type}(xs:List α)(l u:Nat):cut xs l u=(xs.drop l).take (u-l):=by unfold cut;rw[List.drop_take]
inductive Part(n d:Nat)(l:Nat):hJ
 |mk (p:Option (Int×Tok)):(p.map (·.1)).elim d (clipAt n)=l->Part n d l (partValue p)
def EG{n:Nat}{i:Int}(h0:0<=i):clipAt n i=min i.toNat n:=by
 obtain⟨k,rfl⟩:=Int.eq_ofNat_of_zero_le h0;rw[clipAt_nat];simp
set_option tactic.hygienic true in
def CJ(n d:Nat)(v:Value):aX (cutAt n d (er v)) λl=>Part n d l v:=by
 cases v<;>first|exact trivial|exact⟨none,rfl⟩|skip
 rename_i i t
 change aX (if 0<=i/\i<2^62 then some (min i.toNat n)else none) _
 by_cases hb:0<=i/\i<2^62
 ·rw[av hb];exact⟨some (i,t),EG hb.1⟩
 ·rw[aB hb];exact trivial
def kM{n d:Nat}{v:Value}{l:Nat}(h:cutAt n d (er v)=some l):Part n d l v:=az (C:=λl=>Part n d l v) (CJ n d v) h
def A7:∀(p:Option (Int×Tok)),IsPart (partValue p) (p.map (·.1))|none=>.none|some (i,t)=>.int i t
def mQ{prog:Program}{w:World}{A:Around}{s:Shared}{E:gp}{t sl:Addr}{items:Array Value}{u:Tok}{Q:gp}(ht:IsTup s.heap t items)(hs:s.heap.IsSliceOf sl (.int 0 u) .none .none)
  (h:Q (.ref t) s) (hsz:items.size<=sizeLine):wpAny (model prog w) A (getItem (.ref t) (.ref sl)) Q E s:=by
 have hTs:s.TypeIs (.ref sl) "slice":=hs.imp λj z=>⟨z.1,z.2.1⟩
 unfold getItem
 try with_reducible refine bF ?_
 first|refine ae (ax ?_)|skip
 refine ae (wpAny_sequenceKey ht.typeIs aP ?_);refine ae (wpAny_callSpecial?_slot (name:=ofString "__getitem__") ht.typeIs slot_tuple_getitem
  (wpAny_call_entry slot_tuple_getitem ht.typeIs entry_tuple_getitem ?_ (args_tuple_getitem _ _)))
 show wpAny _ _ (Builtin.Tuple.tupleItemsOf (.ref t)>>=_) _ _ s
 refine ae (tupleItemsOf_ ht (ae (wpAny_typeOf hTs ?_)));rw[av aP];refine ae (sliceApplied_from (a:=0) hs (bO _) ?_)
 show wpAny _ _ (if(((0:Nat):Int)==0&&(1:Int)==1&&(items.size-0)==items.size)=true then _ else _) _ _ s
 rw[av (by simp)];refine ae (ae (wpAny_typeOf ht.typeIs (ax ?_)));rw[av aP];exact ae (wpAny_rule (ax ⟨_,rfl,ax h⟩))
section
variable{K:Pt}{Q:dm}{X:bA}{lo hi:Value}{l u:Option Expr}{p:Pos}
def WJ(K:Pt)(ob:Obj):∃n:Nx K,n.H=K.H/\n.s={K.s with heap:=K.s.heap.push ob}:=
 ⟨⟨K.H,_,K.R.more _ λb o e=>cU _ e,.more _ λb o e=>cU _ e⟩,rfl,rfl⟩
abbrev Cut(K:Pt)(l u:Option Expr)(p:Pos)(v:Value)(a:Addr)(Q:dm)(X:bA):Prop:=
 wpAny K.F.M K.A (getitemInPython v) (λg s2=>wpAny K.F.M K.A (subscripted (.Slice l u none p) g v (.ref a)) (K.fk (Er Q)) (K.Exc X) s2) (K.Exc X) K.s
def EH{a b:Addr}{xs:ai}{l' u':Nat}(Jq:K.s.heap.IsSliceOf b lo hi .none)(hx:listOf (K.H a)=some xs)(c1:cutAt xs.length 0 (er lo)=some l')(c2:cutAt xs.length xs.length (er hi)=some u')(hq:dj (.list (cut xs l' u')) K.H Q):Cut K l u p (.ref a) b Q X:=by
 cases jg K.R hx with
 |mk items hl e iW=>
  subst e;have hz:(items.toList.map er).length=items.size:=by rw[au,cL]
  rw[hz]at c1 c2 iW
  cases kM c1 with
  |mk pl el=>
   cases kM c2 with
   |mk pu eu=>
    refine QE hl.typeIs list_getitem_lookup ?_
    show wpAny _ _ (operate _ (getItem _ _)) _ _ _
    refine wpAny_operating (wpAny_getItem_list_slice hl Jq (A7 pl) (A7 pu) .none aP (K.CG ?_ ?_ hq _) iW)
    ·rw[slicePick_plain,el,eu,yV];simp[List.map_take,List.map_drop]
    ·exact aa (by rw[yV];simp;exact aa (Nat.min_le_right ..) (Nat.sub_le ..)) iW
def JX{a b:Addr}{xs:ai}{i:Int}(Jq:K.s.heap.IsSliceOf b lo hi .none)(hx:K.H a=some (.tup xs))(h1:er hi=.none)(h2:nu (er lo)=some i)(h3:0<=i)(h4:i<=xs.length)(hq:if i=0 then Q (.ref a) K.H else dj (.tup (xs.drop i.toNat)) K.H Q):Cut K l u p (.ref a) b Q X:=by
 cases uY h1;obtain⟨t,rfl⟩:=az (pD lo) h2;obtain⟨items,OZ,rfl,iW⟩:=K.R.objs a _ hx;have hz:(items.toList.map er).length=items.size:=by rw[au,cL]
 rw[hz]at h4 iW;have hl:IsTup K.s.heap a items:=⟨_,OZ,rfl,_,rfl⟩
 refine QE hl.typeIs slot_tuple_getitem.lookup ?_
 show wpAny _ _ (operate _ (getItem _ _)) _ _ _
 by_cases h0:i=0
 ·cases h0;exact wpAny_operating (mQ hl Jq (K.nM hq rfl) iW)
 ·rw[aB h0]at hq;obtain⟨k,rfl⟩:=Int.eq_ofNat_of_zero_le h3;refine wpAny_operating (getItem_tuple_from hl Jq (by lia) (by lia) (K.WB ?_ ?_ hq _) iW)
  ·simp[List.map_drop]
  ·simp;lia
def yW{x:Str}{pl pu:Option (Int×Tok)}{l' u':Nat}(el:(pl.map (·.1)).elim 0 (clipAt x.length)=l')(eu:(pu.map (·.1)).elim x.length (clipAt x.length)=u'):slicePicked x pl pu none=(List.range (u'-l')).map (l'+·):=by
 show Builtin.Str.strSliceIndices (pl.map (·.1)) (pu.map (·.1)) 1 x.length=_
 rw[<-el,<-eu,<-sliceRange_one];unfold Builtin.Str.strSliceIndices;cases pl<;>cases pu<;>simp[clipAt_cast]
def EI{x:Str}{l' u':Nat}(hu:u'<=x.length)(h:u'-l'=x.length):(⟨(cut x.cps.toList l' u').toArray⟩:Str)=x:=by
 have WK:(cut x.cps.toList l' u').Sublist x.cps.toList:=(List.drop_sublist _ _).trans (List.take_sublist _ _);have:(cut x.cps.toList l' u').length=x.cps.toList.length:=by
  have e:x.length=x.cps.size:=rfl;unfold cut;simp only[List.length_drop,List.length_take,cL];lia
 rw[WK.eq_of_length this]
def JY{n:Nat}:∀(p:Option Int),p.elim n (clipAt n)<=n|none=>aH _|some i=>by exact eU.mp (by show(clipAt n i:Int)<=n;rw[clipAt_cast];exact Int.max_le.mpr ⟨d9 n,Int.min_le_right ..⟩)
set_option tactic.hygienic true in
def cut_str{b:Addr}{x:Str}{t:Tok}(Jq:K.s.heap.IsSliceOf b lo hi .none)(w:yy (er lo) (er hi) K.H Q x):Cut K l u p (.str x t) b Q X:=by
 obtain⟨l',u',c1,c2,hu,hq⟩:=w
 cases kM c1 with
 |mk pl el=>
  cases kM c2 with
  |mk pu eu=>
   refine QE (typeIs_str _ x t) PySem.F.slot_str_getitem.lookup ?_
   show wpAny _ _ (operate _ (getItem _ _)) _ _ _
   refine wpAny_operating (wpAny_getItem_str_slice (l:=pl) (u:=pu) (st:=none) Jq rfl ?_);have hp:=yW el eu;unfold sliceMade
   split
   ·rename_i JZ;refine K.nM (w:=str x) ?_ rfl;rw[<-EI (x:=x) (l':=l') (u':=u') (eu▸JY _) ?_];exact hq;rw[hp]at JZ;simpa using JZ
   ·refine⟨?_,K.fin hq ?_ _⟩
    ·rw[hp,pick_run];simp[Str.length];unfold aq at hu;rw[sizeLine_eq];exact aa (Nat.min_le_left ..) (aa (Nat.sub_le ..) hu)
    ·rw[hp,pick_run,yV];rfl
def Pt.slice{v:Value}(hw:gH (er v) (er lo) (er hi) K.H Q):
  wpAny K.F.M K.A (newFields "slice" [lo,hi,.none]) (λi s1=>wpAny K.F.M K.A (getitemInPython v) (λg s2=>wpAny K.F.M K.A (subscripted (.Slice l u none p) g v i) (K.fk (Er Q)) (K.Exc X) s2) (K.Exc X) s1) (K.Exc X) K.s:=by
 refine wpAny_newObj_type ?_;obtain⟨n,e1,e2⟩:=WJ K {cls:=.type "slice",dict:=none,data:=.fields #[lo,hi,.none]};have Jq:n.p.s.heap.IsSliceOf K.s.heap.objs.size lo hi .none:=by show n.s.heap.IsSliceOf _ _ _ _;exact e2▸Heap.IsSliceOf.new ..
 rw[<-e1]at hw
 show wpAny K.F.M K.A _ _ _ {K.s with heap:=_}
 rw[<-e2];have key:Cut n.p l u p v K.s.heap.objs.size Q X:=
  oy (C:=λv=>Cut n.p l u p v K.s.heap.objs.size Q X) hw (λj j w=>w.elim) (λj j w=>cut_str Jq w) λa w=>by
   cases w with
   |list xs l u c1 c2 c3 q=>exact EH Jq c1 c2 c3 q|tup xs i c1 c2 c3 c4 c5 q=>exact JX Jq c1 c2 c3 c4 c5 q
 exact aJ key (λg s2 h=>aJ h (λj j=>n.post) λj j=>n.exc) λj j=>n.exc
end
end fG
namespace fG
open PySem PySem.W PySem.Calls PyProof.Rows SeqAt
inductive EJ:Fv->hJ
 |no:EJ .no .none
 |bool (b):EJ (.num (if b then 1 else 0)) (.bool b)
 |int (i t):EJ (.num i) (.int i t)
 |str (x t):EJ (.str x) (.str x t)
def isF(v:Value):aX (fv (er v)) λa=>EJ a v:=by cases v<;>first|exact trivial|exact .no|exact .bool _|exact .int _ _|exact .str _ _
def uZ{v:Value}{a:Fv}(h:fv (er v)=some a):EJ a v:=az (C:=λa=>EJ a v) (isF v) h
def yX{items:Array Value}{j:Nat}(h:j<items.size):(items.toList.map er)[j]? =some (er items[j]):=by simp[h]
def af{α β:Type}{o:Option α}{f:α->Option β}{b:β}{C:Prop}(h:o.bind f=some b)(k:∀a,o=some a->f a=some b->C):C:=by
 cases o with
 |none=>exact eA h|some a=>exact k a rfl h
structure yY(A:Around)(s:Shared)(v u:Value)(b:Bool):Prop where
 rc:RcAt A s v u b
 ne:RcNeAt A s v u (!b)
 eq:EqAt A s v u b
section
variable{A:Around}{s:Shared}
def WL{a b:Fv}{v u:Value}(p:EJ a v)(q:EJ b u):yY A s v u (eqF a b):=by
 cases p with
 |no=>cases q with
  |no=>exact⟨.none_none,.none_none,.same _⟩|bool=>exact⟨.none_bool _,.none_bool _,.none_bool _⟩|int=>exact⟨.none_int _ _,.none_int _ _,.none_int _ _⟩|str=>exact⟨.none_str _ _,.none_str _ _,.none_str _ _⟩
 |bool x=>cases q with
  |no=>exact⟨.bool_none _,.bool_none _,.bool_none _⟩|bool y=>
   have e:eqF (.num (if x then 1 else 0)) (.num (if y then 1 else 0))=(x==y):=by cases x<;>cases y<;>rfl
   rw[e];exact⟨.bool_bool _ _,.bool_bool _ _,.bool_bool _ _⟩
  |int=>exact⟨.bool_int _ _ _,.bool_int _ _ _,.bool_int _ _ _⟩|str=>exact⟨.bool_str _ _ _,.bool_str _ _ _,.bool_str _ _ _⟩
 |int=>cases q with
  |no=>exact⟨.int_none _ _,.int_none _ _,.int_none _ _⟩|bool=>exact⟨.int_bool _ _ _,.int_bool _ _ _,.int_bool _ _ _⟩|int=>exact⟨.int_int _ _ _ _,.int_int _ _ _ _,.int_int _ _ _ _⟩|str=>exact⟨.int_str _ _ _ _,.int_str _ _ _ _,.int_str _ _ _ _⟩
 |str=>cases q with
  |no=>exact⟨.str_none _ _,.str_none _ _,.str_none _ _⟩|bool=>exact⟨.str_bool _ _ _,.str_bool _ _ _,.str_bool _ _ _⟩|int=>exact⟨.str_int _ _ _ _,.str_int _ _ _ _,.str_int _ _ _ _⟩|str=>exact⟨.str_str _ _ _ _,.str_str _ _ _ _,.str_str _ _ _ _⟩
def A8{v u:Value}{b:Bool}(h:kG (er v) (er u)=some b):yY A s v u b:=
 af h λa e h=>af h λc e' h=>ar h▸WL (uZ e) (uZ e')
def wK{v:Value}{b:Bool}(h:kG v v=some b):b=true:=
 af h λa e h=>af h λc e' h=>by
  cases e.symm.trans e';rw[<-ar h]
  cases a with
  |no=>rfl|num i=>exact cW i|str i=>exact cW i
theorem wL:∀{xs ys:ai}{b:Bool},pZ xs ys=some b->xs.length=ys.length->∃e:Nat->Bool,(∀j x y,xs[j]? =some x->ys[j]? =some y->kG x y=some (e j))/\(List.range xs.length).all e=b
 |[],[],b,h,_=>⟨λJ=>true,λJ J J=>(λe=>eA e),ar h⟩
 |[],_::_,_,_,h=>nomatch h
 |_::_,[],_,_,h=>nomatch h
 |x::xs,y::ys,b,h,hl=>af h λa h1 h=>af h λc h2 h=>(wL h2 (Nat.succ.inj hl)).elim λe q=>by
  refine⟨λj=>Nat.casesOn j a e,λj u v hu hv=>?_,?_⟩
  ·cases j with|zero=>obtain rfl:=ar hu;obtain rfl:=ar hv;exact h1|succ j=>exact q.1 j u v hu hv
  ·rw[<-ar h,List.length_cons,List.range_succ_eq_map,List.all_cons,List.all_map,<-q.2];rfl
def EK{a:Addr}{items:Array Value}{f:Fv}{u:Value}(hu:A.units<cLine)(q:jf s.heap a items)(p:EJ f u):yY A s (.ref a) u false:=by
 cases q with
 |list q=>cases p with
  |no=>exact⟨.list_none q hu,.list_none q hu,.list_none q hu⟩|bool=>exact⟨.list_bool _ q hu,.list_bool _ q hu,.list_bool _ q hu⟩|int=>exact⟨.list_int _ _ q hu,.list_int _ _ q hu,.list_int _ _ q hu⟩|str=>exact⟨.list_str _ _ q hu,.list_str _ _ q hu,.list_str _ _ q hu⟩
 |tup q=>cases p with
  |no=>exact⟨.tuple_none q hu,.tuple_none q hu,.tuple_none q hu⟩|bool=>exact⟨.tuple_bool _ q hu,.tuple_bool _ q hu,.tuple_bool _ q hu⟩|int=>exact⟨.tuple_int _ _ q hu,.tuple_int _ _ q hu,.tuple_int _ _ q hu⟩|str=>exact⟨.tuple_str _ _ q hu,.tuple_str _ _ q hu,.tuple_str _ _ q hu⟩
def EL{a:Addr}{items:Array Value}{f:Fv}{u:Value}(hu:A.units<cLine)(q:jf s.heap a items)(p:EJ f u):yY A s u (.ref a) false:=by
 cases q with
 |list q=>cases p with
  |no=>exact⟨.none_list q hu,.none_list q hu,.none_list q hu⟩|bool=>exact⟨.bool_list _ q hu,.bool_list _ q hu,.bool_list _ q hu⟩|int=>exact⟨.int_list _ _ q hu,.int_list _ _ q hu,.int_list _ _ q hu⟩|str=>exact⟨.str_list _ _ q hu,.str_list _ _ q hu,.str_list _ _ q hu⟩
 |tup q=>cases p with
  |no=>exact⟨.none_tuple q hu,.none_tuple q hu,.none_tuple q hu⟩|bool=>exact⟨.bool_tuple _ q hu,.bool_tuple _ q hu,.bool_tuple _ q hu⟩|int=>exact⟨.int_tuple _ _ q hu,.int_tuple _ _ q hu,.int_tuple _ _ q hu⟩|str=>exact⟨.str_tuple _ _ q hu,.str_tuple _ _ q hu,.str_tuple _ _ q hu⟩
end
section
variable{F:Fix}{A:Around}{H:Hp}{s:Shared}
def QG(R:F.R H s)(hu:A.units<cLine){a a':Addr}{xs ys:ai}{b:Bool}(h1:listOf (H a)=some xs)(h2:listOf (H a')=some ys)(h:(if xs.length=ys.length then pZ xs ys else some false)=some b):yY A s (.ref a) (.ref a') b:=by
 cases jg R h1 with
 |mk QH l1 e1 _=>
  cases jg R h2 with
  |mk QJ l2 e2 _=>
   subst e1;subst e2;have fin:RcAt A s (.ref a) (.ref a') b->RcNeAt A s (.ref a) (.ref a') (!b)->(a=a'->b=true)->yY A s (.ref a) (.ref a') b:=λr1 r2 k=>⟨r1,r2,by
    by_cases hab:a=a'
    ·subst hab;rw[k rfl];exact .same _
    ·exact .of_refs hab r1⟩
   have same:a=a'->QH.toList.map er=QJ.toList.map er:=λq=>by subst q;exact ar (h1.symm.trans h2)
   have z1:(QH.toList.map er).length=QH.size:=by rw[au,cL]
   have z2:(QJ.toList.map er).length=QJ.size:=by rw[au,cL]
   by_cases hl:(QH.toList.map er).length=(QJ.toList.map er).length
   ·rw[av hl]at h;obtain⟨e,he,hb⟩:=wL h hl;rw[z1,z2]at hl;rw[z1]at hb;have EM:∀j (h1:j<QH.size)(h2:j<QJ.size),EqAt A.in1 s QH[j] QJ[j] (e j):=λj j1 j2=>(A8 (he j _ _ (yX j1) (yX j2))).eq;refine fin (hb▸.lists l1 l2 hl hu EM) (hb▸.lists l1 l2 hl hu EM) λq=>?_;rw[<-hb,List.all_eq_true];intro j hj;have g:=yX (pY hj);exact wK (he j _ _ g (same q▸g))
   ·rw[aB hl]at h;obtain rfl:=ar h;have hz:(QH.size !=QJ.size)=true:=by rw[z1,z2]at hl;exact bne_iff_ne.mpr hl
    exact fin (.lists_lengths l1 l2 hz hu) (.lists_lengths l1 l2 hz hu) λq=>absurd (ak List.length (same q)) hl
def QK(R:F.R H s)(hu:A.units<cLine){v u:Value}{b:Bool}(h:uI H (er v) (er u)=some b):yY A s v u b:=by
 unfold uI at h;cases ev:fQ (er v)with
 |some a=>
  cases az (kj v) ev;rw[ev]at h;cases eu:fQ (er u)with
  |some a'=>
   cases az (kj u) eu;rw[eu]at h;exact af h λxs h1 h=>af h λys h2 h=>QG R hu h1 h2 h
  |none=>
   rw[eu]at h;exact af h λxs h1 h=>af h λf h2 h=>by
    cases lS R h1 with
    |mk i q _ _=>obtain rfl:=ar h;exact EK hu q (uZ h2)
 |none=>
  rw[ev]at h;cases eu:fQ (er u)with
  |some a'=>
   cases az (kj u) eu;rw[eu]at h;exact af h λxs h1 h=>af h λf h2 h=>by
    cases lS R h1 with
    |mk i q _ _=>obtain rfl:=ar h;exact EL hu q (uZ h2)
  |none=>rw[eu]at h;exact A8 h
theorem rJ{x:Value}:∀{ys:ai}{b:Bool},qQ H x ys=some b->(∀y∈ys,∃c,uI H y x=some c)/\ys.any (λy=>(uI H y x).getD false)=b
 |[],b,h=>⟨λj=>nofun,ar h⟩
 |y::ys,b,h=>af h λa h1 h=>af h λc h2 h=>⟨λz hz=>(fY hz).elim (λq=>⟨a,q▸h1⟩) ((rJ h2).1 z),by rw[List.any_cons,h1,(rJ h2).2];exact ar h⟩
def QL{items:Array Value}(f:Value->Bool):items.any (λy=>f (er y))=(items.toList.map er).any f:=by rw[<-Array.any_toList,List.any_map];rfl
end
section
variable{K:Pt}{Q:dm}{X:bA}
def Pt.u(K:Pt):K.A.units<cLine:=by have:=K.hu;unfold cLine;lia
def Pt.u1(K:Pt):(K.A.in1).units<cLine:=by have:=K.hu;show K.A.units+1<9900;lia
def QM{x:Value}{a:Addr}{ys:ai}{k:Bool}(hs:dP (K.H a)=some ys)(hk:qQ K.H (er x) ys=some k):(Q (.bool k) K.H->K.Wp (compareOp .In x (.ref a)) (Er Q) X)/\(Q (.bool (!k)) K.H->K.Wp (compareOp .NotIn x (.ref a)) (Er Q) X):=by
 cases lS K.R hs with
 |mk items q e _=>
  subst e;obtain⟨e1,e2⟩:=rJ hk;have he:∀y,y∈items->EqAt K.A.in1 K.s y x ((uI K.H (er y) (er x)).getD false):=λy hy=>(e1 _ (jb ⟨y,Array.mem_toList_iff.mpr hy,rfl⟩)).elim λc hc=>by rw[hc];exact(QK K.R K.u1 hc).eq
  have ha:=(QL (items:=items) λz=>(uI K.H z (er x)).getD false).trans e2
  cases q with
  |list q=>exact⟨λh=>in_listAt _ q he (by rw[ha];exact K.nM h rfl),λh=>notIn_listAt _ q he (by rw[ha];exact K.nM h rfl)⟩|tup q=>exact⟨λh=>in_tupleAt _ q he (by rw[ha];exact K.nM h rfl),λh=>notIn_tupleAt _ q he (by rw[ha];exact K.nM h rfl)⟩
def in_dict{x:Value}{a:Addr}{es:cC}{k:Str}(hs:dictOf (K.H a)=some es)(hk:n8 (er x)=some k):(Q (.bool (keyOf es k).isSome) K.H->K.Wp (compareOp .In x (.ref a)) (Er Q) X)/\(Q (.bool (!(keyOf es k).isSome)) K.H->K.Wp (compareOp .NotIn x (.ref a)) (Er Q) X):=by
 obtain⟨t,rfl⟩:=az (CI x) hk
 cases oz K.R hs with
 |mk kvs hd yZ=>
  have h4:(valueAt kvs k).isSome=(keyOf (kvs.map λp=>(p.1,er p.2)) k).isSome:=by exact(jh k kvs)▸Option.isSome_map▸rfl
  have CK:(a==sysModules)=false:=dQ.mpr yZ;exact h4▸⟨λh=>wpAny_in_of (strKind_is K.F.prog K.F.w k t) CK hd.mapOf (K.fin h rfl _),λh=>wpAny_notIn_of (strKind_is K.F.prog K.F.w k t) CK hd.mapOf (K.fin h rfl _)⟩
def WM{x:Value}{a:Addr}{k:Bool}(h:Wf K.H (er x) a=some k):(Q (.bool k) K.H->K.Wp (compareOp .In x (.ref a)) (Er Q) X)/\(Q (.bool (!k)) K.H->K.Wp (compareOp .NotIn x (.ref a)) (Er Q) X):=by
 unfold Wf at h;cases e:dP (K.H a)with
 |some ys=>rw[e]at h;exact QM e h|none=>rw[e]at h;exact af h λes h1 h=>af h λk h2 h=>ar h▸in_dict h1 h2
def qG{v u:Value}{f:Int->Int->Bool}{b:Bool}(h:Cy (er v) (er u) f=some b){C:Value->Value->Bool->Prop}(k:∀i t j w,C (.int i t) (.int j w) (f i j)):C v u b:=
 af h λi h1 h=>af h λj h2 h=>by
  obtain⟨t,rfl⟩:=az (pD v) h1;obtain⟨w,rfl⟩:=az (pD u) h2;rw[<-ar h];exact k i t j w
def J0(v:Value):lI (er v)=(v==Value.none):=by cases v<;>rfl
def qu{v:Value}(hw:handed (er v)=true):PySem.plainIs v .none=true:=by cases v<;>first|rfl|exact absurd hw c8
def EN{v u:Value}{b:Bool}(h:VS (er v) (er u)=some b):u=.none/\PySem.plainIs v .none=true/\(v==.none)=b:=by
 unfold VS at h;by_cases q:(lI (er u)&&handed (er v))=true
 ·rw[av q]at h;have q':=Bool.and_eq_true_iff.mp q;exact⟨isNone (C:=λu=>u=.none) q'.1 rfl,qu q'.2,(J0 v).symm.trans (ar h)⟩
 ·rw[aB q]at h;exact eA h
def Pt.cmp{op:CmpOp}{v u:Value}{b:Bool}(hc:qR K.H op (er v) (er u)=some b)(hw:Q (.bool b) K.H):K.Wp (compareOp op v u) (Er Q) X:=by
 have fin:K.fk (Er Q) (.bool b) K.s:=K.nM hw rfl
 cases op with
 |Eq=>exact(QK K.R K.u hc).rc _ _ _ _ fin|NotEq=>obtain⟨k,e,rfl⟩:=map_some hc;exact(QK K.R K.u e).ne _ _ _ _ fin|Lt=>exact qG hc (C:=λv u b=>K.fk (Er Q) (.bool b) K.s->K.Wp (compareOp .Lt v u) (Er Q) X) (λj j j j=>P.lt_int) fin|LtE=>exact qG hc (C:=λv u b=>K.fk (Er Q) (.bool b) K.s->K.Wp (compareOp .LtE v u) (Er Q) X) (λj j j j=>P.le_int) fin|Gt=>exact qG hc (C:=λv u b=>K.fk (Er Q) (.bool b) K.s->K.Wp (compareOp .Gt v u) (Er Q) X) (λj j j j=>P.gt_int) fin|GtE=>exact qG hc (C:=λv u b=>K.fk (Er Q) (.bool b) K.s->K.Wp (compareOp .GtE v u) (Er Q) X) (λj j j j=>P.ge_int) fin|Is=>obtain⟨rfl,h,rfl⟩:=EN hc;exact wpAny_is_plain h fin|IsNot=>obtain⟨k,e,rfl⟩:=map_some hc;obtain⟨rfl,h,rfl⟩:=EN e;exact wpAny_isNot_plain h fin|In=>exact af hc λa e h=>by cases az (kj u) e;exact(WM h).1 hw
 |NotIn=>obtain⟨k,e,rfl⟩:=map_some hc;exact af e λa e h=>by cases az (kj u) e;exact(WM h).2 hw
end
end fG
namespace fG
open PySem PySem.W PySem.Calls PyProof.Rows
def vc:Slot "method_descriptor" "__get__" "method_descriptor.__get__":=
 .of (owner:="method_descriptor") (n:="__get__") (by rw[typeLookup_type,builtinLookup_eq_fast];kernel_rfl) pX pX pX
  (by first|exact .inl pX|exact .inr pX) (by rw[eI];kernel_rfl)
def EO:typeLookup (.type "method_descriptor") "__set__"=pure none:=by rw[typeLookup_type,builtinLookup_eq_fast];kernel_rfl
def EP:typeLookup (.type "method_descriptor") "__delete__"=pure none:=by rw[typeLookup_type,builtinLookup_eq_fast];kernel_rfl
def ER:entryFor table "method_descriptor.__get__"=some Builtin.«method_descriptor.__get__»:=entryFor_of_tree (aO)
def J1(a b c:Value):argsOk "method_descriptor.__get__" ⟨[a,b,c],[]⟩:=by unfold argsOk;kernel_rfl
def entry_list_ga:entryFor table "list.__getattribute__"=some Builtin.«object.__getattribute__»:=
 entryFor_alias (id':="object.__getattribute__") (aO) (by first|rfl|decide+kernel) pX (aO)
def ES:(kfb_private%"ownerAndName") "list.append"=("list","append"):=by first|decide+kernel|kernel_rfl
def sub_list_self:isSubtype (.type "list") (.type "list")=pure true:=by rw[eI];kernel_rfl
def J2:Manifest.toldItsClass.contains "list.append"=false:=by decide+kernel
noncomputable abbrev rK(l:Addr):Obj:={cls:=.type "builtin_function_or_method",data:=.fields #[.builtin "list.append",.ref l]}
section
variable{prog:Program}{w:World}{A:Around}{E:gp}{h:Heap}{g:Array GenState}{d:Drawn}{t:Nat}{os:OsState}{a:Addr}{o:Obj}
def QN{R:A1}(hx:h.get? a=some o)(hc:o.cls=.type "list")(hq:R (.ok (.ret (.ref h.objs.size))) ⟨h.push (rK a),g,d,t,os⟩):
  codeAny (model prog w) A (.call (.builtin "method_descriptor.__get__") ⟨[.builtin "list.append",.ref a,.type "list"],[]⟩) R ⟨h,g,d,t,os⟩:=by
 have hT:(⟨h,g,d,t,os⟩:Shared).TypeIs (.ref a) "list":=⟨_,hx,hc⟩
 have J3:(⟨h,g,d,t,os⟩:Shared).TypeIs (.builtin "list.append") "method_descriptor":=type_list_append;refine codeAny_call_builtin vc.plain ER (vc.check _ _ _ _ _ _ _ _ J3 (J1 _ _ _) ?_);unfold Builtin.«method_descriptor.__get__»;refine ae (wpAny_of_eq (a:=(.builtin "list.append",some (.ref a),some (.type "list"))) (by first|rfl|kernel_rfl) ?_)
 dsimp only
 rw[J2,aB c8]
 show wpAny _ _ ((kfb_private%"checkInstance") (.builtin "list.append") (.ref a)>>=λj=>newFields "builtin_function_or_method" [.builtin "list.append",.ref a]>>=λv=>ret v) _ _ _
 refine ae ?_
 show wpAny _ _ ((kfb_private%"nameAndClass") (.builtin "list.append")>>=λp=>isInstance (.ref a) p.2>>=_) _ _ _
 refine ae (wpAny_of_eq (a:=(("append":Str),Value.type "list")) (by
  show pure ((((kfb_private%"ownerAndName") "list.append").2:Str),Value.type ((kfb_private%"ownerAndName") "list.append").1)=_
  rw[ES]) ?_)
 refine ae (wpAny_isInstance hT sub_list_self ?_)
 dsimp only
 refine ax ?_;refine ae (m:=newFields _ _) (wpAny_newObj_type ?_);exact ax hq
def J4(hx:h.get? a=some o)(hc:o.cls=.type "list")(hd:o.dict=none)(hn:∀c,o.data≠.cls c){Q:Builtin.ObjectAttr.Found->bW}(hq:Q (.bind (.builtin "method_descriptor.__get__") (.builtin "list.append")) ⟨h,g,d,t,os⟩):
  wpAny (model prog w) A (Builtin.ObjectAttr.find (.ref a) (.type "list") (ofString "append")) Q E ⟨h,g,d,t,os⟩:=by
 unfold Builtin.ObjectAttr.find;refine ae (wpAny_of_eq slot_list_append.lookup ?_);have J3:(⟨h,g,d,t,os⟩:Shared).TypeIs (.builtin "list.append") "method_descriptor":=type_list_append;refine ae (wpAny_specialOf J3 vc.lookup ?_);refine ae (m:=Builtin.ObjectAttr.dataDescriptor? _ _) ?_;unfold Builtin.ObjectAttr.dataDescriptor?;refine ae ?_;unfold Builtin.ObjectAttr.takesStores;refine ae (wpAny_specialOf J3 EO ?_);rw[aB (by simp)];refine ae (wpAny_specialOf J3 EP ?_);refine ax (ax ?_)
 show wpAny _ _ (Builtin.ObjectAttr.ownThenClass (.ref a) (ofString "append") (some (.builtin "list.append")) (some (.builtin "method_descriptor.__get__"))) _ _ _
 unfold Builtin.ObjectAttr.ownThenClass;obtain⟨oc,od,oda,osl⟩:=o
 dsimp only at hc hd hn
 subst hc hd;refine ae (ae (m:=Builtin.ObjectAttr.ownDict _) (ae (wpAny_loadPart hx ?_)));cases oda<;>try exact absurd rfl (hn _)
 all_goals
  dsimp only
  refine ae (wpAny_loadPart hx ?_);refine ax (ax ?_);exact ae (ax (ae (wpAny_rule (ax hq))))
def ET{tk:Tok}{Q:Fin->bW}(hx:h.get? a=some o)(hc:o.cls=.type "list")(hd:o.dict=none)(hn:∀c,o.data≠.cls c)(hq:Q (.done (.ret (.ref h.objs.size))) ⟨h.push (rK a),g,d,t,os⟩):
  wpAny (model prog w) A (Builtin.«object.__getattribute__» ⟨[.ref a,.str (ofString "append") tk],[]⟩) Q E ⟨h,g,d,t,os⟩:=by
 have hT:(⟨h,g,d,t,os⟩:Shared).TypeIs (.ref a) "list":=⟨_,hx,hc⟩
 have J3:(⟨h,g,d,t,os⟩:Shared).TypeIs (.builtin "list.append") "method_descriptor":=type_list_append;unfold Builtin.«object.__getattribute__»;refine ae (ax (ae (ax (ae (wpAny_typeOf hT (ae (J4 hx hc hd hn ?_)))))))
 show wpAny _ _ (Builtin.ObjectAttr.bindTo (.builtin "method_descriptor.__get__") (.builtin "list.append") (.ref a) (.type "list")) _ _ _
 show wpAny _ _ (holding [.builtin "list.append"] (call (.builtin "method_descriptor.__get__") [.builtin "list.append",.ref a,.type "list"])>>=λv=>ret v) _ _ _
 exact ae (bF (wpAny_call (QN hx hc (ax hq))))
def J5{tk:Tok}{R:A1}(hx:h.get? a=some o)(hc:o.cls=.type "list")(hd:o.dict=none)(hn:∀c,o.data≠.cls c)(hq:R (.ok (.ret (.ref h.objs.size))) ⟨h.push (rK a),g,d,t,os⟩):
  codeAny (model prog w) A (.call (.builtin "list.__getattribute__") ⟨[.ref a,.str (ofString "append") tk],[]⟩) R ⟨h,g,d,t,os⟩:=
 codeAny_call_builtin PySem.F.slot_list_getattribute.plain entry_list_ga (PySem.F.slot_list_getattribute.check _ _ _ _ _ _ _ _ (show(⟨h,g,d,t,os⟩:Shared).TypeIs (.ref a) "list"from⟨_,hx,hc⟩) (PySem.F.args_list_getattribute_2 _ _) (ET hx hc hd hn hq))
def get_append{Q:gp}(hx:h.get? a=some o)(hc:o.cls=.type "list")(hd:o.dict=none)(hn:∀c,o.data≠.cls c)(hq:Q (.ref h.objs.size) ⟨h.push (rK a),g,d,t+1,os⟩):
  wpAny (model prog w) A (getAttr (.ref a) (ofString "append") true) Q E ⟨h,g,d,t,os⟩:=by
 have hT:(⟨h,g,d,t+1,os⟩:Shared).TypeIs (.ref a) "list":=⟨_,hx,hc⟩
 unfold getAttr;refine ae (wpAny_mkText ?_);unfold getAttrBy;refine bF (ae (wpAny_typeOf hT (ae (wpAny_of_eq PySem.F.slot_list_getattribute.lookup ?_))))
 dsimp only
 rw[aB aP];unfold getAttrByItsOwn hookBefore callGetattribute boundAndCalled;refine ae (wpAny_of_eq (show(if onTheHeap (.type "list")then typeLookup (.type "list") "__getattr__"else pure none)=pure none from rfl) ?_);refine ae (wpAny_attempt (bF ?_))
 show wpAny _ _ (bindSpecial (.builtin "list.__getattribute__") (.ref a)>>=_) _ _ _
 refine ae (wpAny_of_eq (PySem.F.slot_list_getattribute.bind _) ?_);refine wpAny_call (J5 hx hc hd hn ?_);exact ax hq
end
section
open Sem (wp)
namespace FF
def oA:entryFor table "object.__getattribute__"=some Builtin.«object.__getattribute__»:=entryFor_of_tree (aO)
def oB:typeLookup (.type "function") "__class__"=pure (some (.builtin "object.__class__")):=by rw[typeLookup_type,builtinLookup_eq_fast];kernel_rfl
def jZ:isSubtype (.type "function") (.type (".".intercalate ("object.__class__".cutAt '.').dropLast))=pure true:=by rw[PySem.F.owner_object_class,eI];kernel_rfl
def di:Slot "function" "__getattribute__" "object.__getattribute__":=
 .of (owner:="object") (n:="__getattribute__") (by rw[typeLookup_type,builtinLookup_eq_fast];kernel_rfl) pX pX pX
  (by first|exact .inl pX|exact .inr pX) (by rw[eI];kernel_rfl)
def iI(a b:Value):argsOk "object.__getattribute__" ⟨[a,b],[]⟩:=by unfold argsOk;kernel_rfl
end FF
section
variable{prog:Program}{w:World}{A:Around}{E:gp}{h:Heap}{g:Array GenState}{d:Drawn}{t:Nat}{os:OsState}{a:Addr}{o:Obj}
def nN{R:A1}(hx:h.get? a=some o)(hc:o.cls=.type "function")(hq:R (.ok (.ret (.type "function"))) ⟨h,g,d,t,os⟩):
  codeAny (model prog w) A (.call (.builtin "getset_descriptor.__get__") ⟨[.builtin "object.__class__",.ref a,.type "function"],[]⟩) R ⟨h,g,d,t,os⟩:=by
 have hT:(⟨h,g,d,t,os⟩:Shared).TypeIs (.ref a) "function":=⟨_,hx,hc⟩
 have J3:(⟨h,g,d,t,os⟩:Shared).TypeIs (.builtin "object.__class__") "getset_descriptor":=PySem.F.typeOf_object_class;have f8:=FF.jZ;refine codeAny_call_builtin PySem.F.slot_gs_get.plain PySem.F.entry_gs_get (PySem.F.slot_gs_get.check _ _ _ _ _ _ _ _ J3 (PySem.F.args_gs_get _ _ _) ?_)
 repeat(any_goals(first|assumption|wp_step))
 refine⟨Code.quiet_builtin _ pX,codeAny_builtin PySem.F.entry_object_class ?_⟩
 repeat(any_goals(first|assumption|wp_step))
def lT{tk:Tok}{Q:Fin->bW}(hx:h.get? a=some o)(hc:o.cls=.type "function")(hq:Q (.done (.ret (.type "function"))) ⟨h,g,d,t,os⟩):
  wpAny (model prog w) A (Builtin.«object.__getattribute__» ⟨[.ref a,.str "__class__" tk],[]⟩) Q E ⟨h,g,d,t,os⟩:=by
 have hT:(⟨h,g,d,t,os⟩:Shared).TypeIs (.ref a) "function":=⟨_,hx,hc⟩
 have J3:(⟨h,g,d,t,os⟩:Shared).TypeIs (.builtin "object.__class__") "getset_descriptor":=PySem.F.typeOf_object_class;have f4:=FF.oB;have f5:=PySem.F.typeOf_object_class;have f6:=PySem.F.slot_gs_get.lookup;have f7:=PySem.F.slot_gs_set.lookup
 repeat(any_goals(first|assumption|wp_step))
 refine nN hx hc ?_
 repeat(any_goals(first|assumption|wp_step))
def mR{tk:Tok}{R:A1}(hx:h.get? a=some o)(hc:o.cls=.type "function")(hq:R (.ok (.ret (.type "function"))) ⟨h,g,d,t,os⟩):
  codeAny (model prog w) A (.call (.builtin "object.__getattribute__") ⟨[.ref a,.str "__class__" tk],[]⟩) R ⟨h,g,d,t,os⟩:=
 codeAny_call_builtin FF.di.plain FF.oA (FF.di.check _ _ _ _ _ _ _ _ (show(⟨h,g,d,t,os⟩:Shared).TypeIs (.ref a) "function"from⟨_,hx,hc⟩) (FF.iI _ _) (lT hx hc hq))
def oC{tk:Tok}{Q:gp}(hx:h.get? a=some o)(hc:o.cls=.type "function")(hq:Q (.type "function") ⟨h,g,d,t,os⟩):wpAny (model prog w) A (getAttrBy (.ref a) (.str "__class__" tk) false) Q E ⟨h,g,d,t,os⟩:=by
 have hT:(⟨h,g,d,t,os⟩:Shared).TypeIs (.ref a) "function":=⟨_,hx,hc⟩
 have f2:=FF.di.lookup;have f3:=FF.di.bind (.ref a)
 repeat(any_goals(first|assumption|wp_step))
 refine mR hx hc ?_
 repeat(any_goals(first|assumption|wp_step))
def mS{Q:bq->bW}(hx:h.get? a=some o)(hc:o.cls=.type "function")(hq:Q (some (.type "function")) ⟨h,g,d,t+1,os⟩):wpAny (model prog w) A (getAttr? (.ref a) "__class__") Q E ⟨h,g,d,t,os⟩:=by
 unfold getAttr? getAttrBy?
 repeat(any_goals(first|assumption|with_reducible apply oC hx hc|wp_step))
def gO{T:String}{CL:Int}{tk:Tok}{Q:Fin->bW}(hx:h.get? a=some o)(hc:o.cls=.type "function")(yn:(Value.type "function"==Value.type T)=false)(tn:typeOf (.type T)=pure (.type "type"))
  (WK:isSubtype (.type "function") (.type T)=pure false) (hq:Q (.done (.ret (.bool false))) ⟨h,g,d,t+1,os⟩):
  wpAny (model prog w) A (Builtin.«isinstance.nested» ⟨[.ref a,.type T,.int CL tk],[]⟩) Q E ⟨h,g,d,t,os⟩:=by
 have hT:(⟨h,g,d,t,os⟩:Shared).TypeIs (.ref a) "function":=⟨_,hx,hc⟩
 repeat(any_goals(first|assumption|with_reducible apply mS hx hc|wp_step))
end
end
def ty_type{n:String}(hn:n∈bh):typeOf (.type n)=pure (.type "type"):=by
 simp only[bh,eV,dS,or_false]at hn;rcases hn with rfl|rfl|rfl|rfl|rfl<;>first|rfl|kernel_rfl
def za{a:Addr}{n:String}(hn:n∈bh):Answers (λs=>s.TypeIs (.ref a) "function") (.ref a) (.type n) false:=
 λj j j j j j s hs=>by
  have tn:=ty_type hn;obtain⟨h,g,d,t,os⟩:=s;obtain⟨⟨o,hx,hc⟩,hq⟩:=hs;simp only[bh,eV,dS,or_false]at hn;rcases hn with rfl|rfl|rfl|rfl|rfl<;>exact gO hx hc aP tn (by rw[eI];kernel_rfl) (hq (t+1))
def EU{n:String}(hn:n∈bh):Answers (λs=>s.TypeIs .none "NoneType") .none (.type n) false:=by
 have tn:=ty_type hn;simp only[bh,eV,dS,or_false]at hn;rcases hn with rfl|rfl|rfl|rfl|rfl<;>exact λCL tk prog w A R s hs=>(Answers.of_false_none aP tn (by rw[eI];kernel_rfl)) CL tk prog w A R s hs
def EV{x:Bool}{n:String}(hn:n∈bh):Answers (λs=>s.TypeIs (.bool x) "bool") (.bool x) (.type n) (n=="bool"||n=="int"):=by
 have tn:=ty_type hn;simp only[bh,eV,dS,or_false]at hn;rcases hn with rfl|rfl|rfl|rfl|rfl<;>first|exact Answers.of_true tn (by rw[eI];kernel_rfl)|exact λCL tk prog w A R s hs=>(Answers.of_false_bool aP tn (by rw[eI];kernel_rfl)) CL tk prog w A R s hs
def J6{x:Int}{t:Tok}{n:String}(hn:n∈bh):Answers (λs=>s.TypeIs (.int x t) "int") (.int x t) (.type n) (n=="int"):=by
 have tn:=ty_type hn;simp only[bh,eV,dS,or_false]at hn;rcases hn with rfl|rfl|rfl|rfl|rfl<;>first|exact Answers.of_true tn (by rw[eI];kernel_rfl)|exact λCL tk prog w A R s hs=>(Answers.of_false_int aP tn (by rw[eI];kernel_rfl)) CL tk prog w A R s hs
def J7{x:Str}{t:Tok}{n:String}(hn:n∈bh):Answers (λs=>s.TypeIs (.str x t) "str") (.str x t) (.type n) (n=="str"):=by
 have tn:=ty_type hn;simp only[bh,eV,dS,or_false]at hn;rcases hn with rfl|rfl|rfl|rfl|rfl<;>first|exact Answers.of_true tn (by rw[eI];kernel_rfl)|exact λCL tk prog w A R s hs=>(Answers.of_false_str aP tn (by rw[eI];kernel_rfl)) CL tk prog w A R s hs
def EW{a:Addr}{n:String}(hn:n∈bh):Answers (λs=>s.TypeIs (.ref a) "list") (.ref a) (.type n) (n=="list"):=by
 have tn:=ty_type hn;simp only[bh,eV,dS,or_false]at hn;rcases hn with rfl|rfl|rfl|rfl|rfl<;>first|exact Answers.of_true tn (by rw[eI];kernel_rfl)|exact λCL tk prog w A R s hs=>(Answers.of_false_list aP tn (by rw[eI];kernel_rfl)) CL tk prog w A R s hs
def CM{a:Addr}{n:String}(hn:n∈bh):Answers (λs=>s.TypeIs (.ref a) "tuple") (.ref a) (.type n) (n=="tuple"):=by
 have tn:=ty_type hn;simp only[bh,eV,dS,or_false]at hn;rcases hn with rfl|rfl|rfl|rfl|rfl<;>first|exact Answers.of_true tn (by rw[eI];kernel_rfl)|exact λCL tk prog w A R s hs=>(Answers.of_false_tuple aP tn (by rw[eI];kernel_rfl)) CL tk prog w A R s hs
inductive Ans(s:Shared)(v:Value)(n:String)(b:Bool):Prop|mk (Tx):s.TypeIs v Tx->Answers (λs=>s.TypeIs v Tx) v (.type n) b->Ans s v n b
def nO{F:Fix}{H:Hp}{s:Shared}(R:F.R H s)(hkf:∀a,F.tb.kind a=.fn->s.TypeIs (.ref a) "function"){v:Value}{n:String}{b:Bool}(hn:n∈bh)(h:TypeIs F.tb H (er v) n b):Ans s v n b:=by
 cases v<;>first|exact h.elim|skip
 ·cases h;exact⟨"NoneType",rfl,EU hn⟩
 ·cases h;exact⟨"bool",rfl,EV hn⟩
 ·cases h;exact⟨"int",rfl,J6 hn⟩
 ·cases h;exact⟨"str",rfl,J7 hn⟩
 ·rcases h with⟨h1,rfl⟩|⟨⟨xs,h1⟩,rfl⟩|⟨h1,rfl⟩
  ·obtain⟨xs,hx⟩:=Option.isSome_iff_exists.mp h1
   cases jg R hx with
   |mk items l1 _ _=>exact⟨"list",l1.typeIs,EW hn⟩
  ·obtain⟨items,l1,_⟩:=R.objs _ _ h1;exact⟨"tuple",⟨_,l1,rfl⟩,CM hn⟩
  ·exact⟨"function",hkf _ h1,za hn⟩
theorem ints_of:∀{vs:ai}{ns:dN},vs.map er=ns.map int->IntsAre vs ns
 |[],[],_=>.nil|[],_::_,h=>nomatch h
 |_::_,[],h=>nomatch h
 |v::vs,n::ns,h=>QC (C:=λv=>IntsAre (v::vs) (n::ns)) (List.cons.inj h).1 λt=>.cons n t (ints_of (List.cons.inj h).2)
def J8{vs:ai}{ss:aF}(h:StrsAre vs ss):vs.map er=ss.map str:=by
 induction h with
 |nil=>rfl|cons y t _ ih=>rw[List.map_cons,List.map_cons,ih];rfl
def getD_mem'{l:dN}{i:Nat}(h:i<l.length):l.getD i 0∈l:=by rw[List.getD_eq_getElem?_getD,bN h];exact List.getElem_mem h
def CN{l:dN}{a:Int}(h:a∈l):∃j,j<l.length/\l.getD j 0=a:=by
 obtain⟨j,hj,e⟩:=List.mem_iff_getElem.mp h;exact⟨j,hj,by rw[List.getD_eq_getElem?_getD,bN hj];exact e⟩
def TypeIs.uniq{s:Shared}{v:Value}{T U:String}(h1:s.TypeIs v T)(h2:s.TypeIs v U):T=U:=by
 cases v with
 |ref a=>
  obtain⟨o,e1,e2⟩:=h1;obtain⟨o',e3,e4⟩:=h2;rw[e1]at e3;obtain rfl:=ar e3;rw[e2]at e4;injection e4
 |_=>
  have e:(Sem.pure (Value.type T):Sem Value)=Sem.pure (Value.type U):=Eq.trans (Eq.symm h1) h2;injection e with e;injection e
section
variable{vs:ai}{C:ai->Prop}
@[elab_as_elim] def jE{P:hJ}(h:sY (vs.map er) P)(k:∀v,P (er v)->C [v]):C vs:=by
 cases vs with
 |nil=>exact h.elim|cons v r=>cases r with
  |nil=>exact k v h|cons=>exact h.elim
@[elab_as_elim] def EX{P:Value->hJ}(h:OR (vs.map er) P)(k:∀v u,P (er v) (er u)->C [v,u]):C vs:=by
 cases vs with
 |nil=>exact h.elim|cons v r=>exact jE (C:=λr=>C (v::r)) h λu w=>k v u w
end
section
variable{K:Pt}{Q:dm}{X:bA}
def Pt.grown{h':Heap}{tk:Nat}{a:Addr}{items:Array Value}{xs:ai}(k:∀b o,K.s.heap.get? b=some o->h'.get? b=some o)(na:K.s.heap.get? a=none)(hl:h'.PlainList a items)(e:items.toList.map er=xs)(hz:xs.length<=aq)(hw:dj (.list xs) K.H Q):
  K.fk (Er Q) (.ref a) {K.s with heap:=h',toks:=tk}:=
 ⟨K.H.set a (.list xs),hw a (K.R.fresh na),K.R.grown (o:=.list xs) k na ⟨items,hl,e,hz⟩,.grown k na (K.R.fresh na)⟩
def Pt.fn(K:Pt){a:Addr}(h:K.F.tb.kind a=.fn):K.s.TypeIs (.ref a) "function":=(K.F.Wv a h).2.2.imp λo z=>⟨K.R.stays a o z.1,z.2⟩
theorem tW:∀{l:ai}{ks:cC}{knd:Str->Value->Bool},(∀k v,knd k v=true->∃t,v=.str k t)->l.length=ks.length->(∀(j:Nat)(v:Value),l[j]? =some v->∃k x,ks[j]? =some (k,x)/\knd k v=true)->StrsAre l (ks.map λe=>e.1)
 |[],[],_,_,_,_=>.nil|[],_::_,_,_,h,_=>nomatch h
 |_::_,[],_,_,h,_=>nomatch h
 |v::l,p::ks,knd,hk,hl,hv=>by
  obtain⟨k,x,e1,e2⟩:=hv 0 v rfl;obtain rfl:=ar e1;obtain⟨t,rfl⟩:=hk k v e2;exact .cons _ _ (tW hk (Nat.succ.inj hl) λj u hu=>hv (j+1) u hu)
def EY{a:Addr}(w:qT K.H Q a):K.Wp (call (.builtin "sorted") [.ref a]) (Er Q) X:=by
 obtain⟨es,h1,h64,hw⟩:=w;obtain⟨kvs,hd,rfl,yZ⟩:=K.R.objs a _ h1;obtain⟨ep,hat⟩:=hd.dictAt;rw[au]at h64;have hw:=dq▸hw;have CK:(a==sysModules)=false:=dQ.mpr yZ;refine call_function_entry kind_sorted plain_sorted entry_sorted (args_sorted1 _) ?_;unfold Builtin.«sorted»;refine ae (m:=checkCount "sorted" 1 1 _) (ax ?_);refine ae (kdu_collect (A:=K.A.in1) (kdl_dict (knd:=strKind K.F.prog K.F.w) (kvs:=kvs) (ep:=ep) CK) K.hf.handled hat (by rw[sizeLine_eq];lia) λh' tk acc hk WN=>?_);have hl:acc.toList.length=kvs.length:=by rw[cL,WN.1]
 have hS:StrsAre acc.toList (kvs.map λe=>e.1):=tW (knd:=(strKind K.F.prog K.F.w).is) (λk v e=>Value.isStrOf_shape e) hl λj v e=>WN.2 j v ((Array.getElem?_toList▸e));refine ae (wpAny_newList ?_ (by rw[hl,sizeLine_eq];lia));have hoL:(h'.push {cls:=.type "list",data:=.seq acc.toList.toArray}).get? h'.objs.size=some (seqObj "list" acc.toList.toArray 0):=fa _ rfl;refine ae (bF (wpAny_call_entry slot_list_sort ⟨_,hoL,rfl⟩ entry_list_sort (list_sort_treeK strKind_oneLt hoL hS.keysOf (λv₁ v₂ rest e=>keyKind_strs ((e▸hS))) (by rw[hl];exact h64) λst' hp hs=>⟨_,rfl,?_⟩) (args_list_sort _)));obtain⟨ss',g1,g2,g3⟩:=sorted_out_str hS hp hs;refine ax ⟨_,rfl,?_⟩;obtain⟨e,he⟩:=sortedHeap_at (vs:=acc.toList) (out:=(arrOf st').map (·.2)) hoL;refine K.grown (λb o q=>?_) (is_none λo q=>Nat.lt_irrefl _ (Heap.lt_size (hk _ _ q))) ⟨_,he⟩ (J8 g1) ?_ (hw ss' g2)
 ·have q':=hk b o q;exact(sortedHeap_old (Nat.ne_of_lt (Heap.lt_size q')) (Heap.lt_size (cU _ q'))).trans (cU _ q')
 ·rw[au,g2.length_eq,au];exact aa (cM h64) aP
def vd{n:Nat}(h:n<=aq):(n:Int)<2^63:=by unfold aq at h;lia
def WO{v:Value}(w:tO (er v) K.H Q):K.Wp (call (.builtin "len") [v]) (Er Q) X:=by
 refine oy (C:=λv=>K.Wp (call (.builtin "len") [v]) (Er Q) X) w (λj j w=>w.elim) (λs t w=>P.len_str (Int.not_le.mpr (vd w.1)) (K.fin w.2 rfl _)) λa w=>?_;obtain⟨xs,hx,hq⟩:=w
 cases lS K.R hx with
 |mk items q e iW=>
  subst e;rw[au,cL]at iW hq
  cases q with
  |list q=>exact call_len_list q (vd iW) (K.fin hq rfl _)|tup q=>exact PyProof.Rows.len_tuple q (vd iW) (K.fin hq rfl _)
def WQ{a:Addr}(w:Eg K.H Q a):K.Wp (call (.builtin "max") [.ref a]) (Er Q) X:=by
 obtain⟨ns,yn,h1,hq⟩:=w;obtain⟨items,hl,hm,hz⟩:=JN K.R h1;have hi:IntsAre items.toList ns:=ints_of hm;obtain⟨xs,e⟩:=hi.allInts.items;have e:items=intItems xs:=by exact e▸rfl
 subst e;have yZ:ns=xs.toList.map (·.1):=by rw[<-hi.numsOf,<-nums_intItems]
 subst yZ;have hsz:0<xs.size:=by rw[<-cL,<-au (f:=(·.1))];exact List.length_pos_iff.mpr yn
 refine max_intList K.hf.handled hl hsz λv h' tk hv hk=>?_;obtain⟨t,rfl⟩:=intItems_at hv;obtain⟨g1,g2⟩:=argBest_gt (numAt xs) (xs.size-1);refine⟨K.H,hq _ ?_ λk hk'=>?_,K.R.more _ hk,.more _ hk⟩
 ·rw[numAt_eq];exact getD_mem' (by rw[au,cL];first|exact g1|exact bP g1 (Nat.sub_lt hsz Nat.zero_lt_one)|lia)
 ·obtain⟨j,hj,rfl⟩:=CN hk';rw[au,cL]at hj;rw[<-numAt_eq];exact g2 j (by first|exact Nat.le_sub_one_of_lt hj|lia)
def abu{v u:Value}(w:yA K.F.tb (er v) (er u) K.H Q):K.Wp (call (.builtin "isinstance") [v,u]) (Er Q) X:=by
 cases u<;>first|exact w.elim|skip
 ·obtain⟨b,hn,ht,hq⟩:=w
  cases nO K.R (λa=>K.fn) hn ht with
  |mk Tx hT ha=>exact call_isinstance (S:=λj R s'=>s'.TypeIs v Tx/\∀tk',R (.ok (.ret (.bool b))) {s' with toks:=tk'}) (λprog w A R s' hs=>isinstance_outer (ha 0 0 prog w A R s' hs) (Shared.TypeIs.not_mainsLoader hs.1)) ⟨hT,λtk'=>K.fin hq rfl _⟩
 ·obtain⟨n,m,b,b',h1,hn,hm,ht1,ht2,hq⟩:=w;obtain⟨items,r1,r2,_⟩:=K.R.objs _ _ h1;have WR:items=([.type n,.type m]:ai).toArray:=by
   obtain⟨l⟩:=items;have:OR (l.map er) λx y=>x=.type n/\y=.type m:=by rw[show l.map er=_ from r2];exact⟨rfl,rfl⟩
   exact EX (C:=λl=>(⟨l⟩:Array Value)=_) this λx y q=>by
    have tt:∀{x:Value}{n:String},er x=.type n->x=.type n:=λ{x n} e=>by cases x<;>first|exact e|cases e
    exact(tt q.1)▸(tt q.2)▸rfl
  subst WR
  cases nO K.R (λa=>K.fn) hn ht1 with
  |mk Tx hT ha=>
   cases nO K.R (λa=>K.fn) hm ht2 with
   |mk Ty hT' ha'=>
    cases TypeIs.uniq hT hT';exact IsiPair.tupleOf (cs:=[.type n,.type m]) (vs:=[b,b']) ⟨ha,ha',trivial⟩ hT r1 λtk=>K.fin hq (by cases b<;>cases b'<;>rfl) _
def QO{a:Addr}(w:yB K.H Q a):K.Wp (call (.type "list") [.ref a]) (Er Q) X:=by
 obtain⟨xs,hx,hq⟩:=w
 cases jg K.R hx with
 |mk items l e iW=>
  subst e;obtain⟨o,ho,hc,n,hd⟩:=l;exact call_list_seq a (.inl rfl) ho hc hd (λh' c' hk hn=>K.grown hk (eW _) ⟨_,hn⟩ rfl iW hq) (by rw[<-cL,<-au (f:=er)];exact iW)
def digits{i:Int}(h:qS i):i.natAbs.log2<1920:=by
 by_cases h0:i.natAbs=0
 ·rw[h0];decide
 ·exact dI ((Nat.log2_lt h0).mpr h) aP
def QR(i:Int):(if i<0 then-i else i)=(i.natAbs:Int):=by
 by_cases h:i<0
 ·rw[av h];exact(Int.ofNat_natAbs_of_nonpos (Int.le_of_lt h)).symm
 ·rw[aB h];exact(Int.natAbs_of_nonneg (Int.not_lt.mp h)).symm
def Pt.abv{n:String}{vs:ai}(hw:kc K.F.tb n (vs.map er) K.H Q):K.Wp (call (.builtin n) vs) (Er Q) X:=by
 cases hw with
 |len e w=>subst e;exact jE w λv w=>WO w|isi e w=>subst e;exact EX w λv u w=>abu w|abs e w=>subst e;exact jE w λv w=>isInt w λi t w=>call_abs_int λu tk=>K.fin (v:=.int _ u) w (ak int (QR i)) _|max e w=>subst e;exact jE w λv w=>isRef w λa w=>WQ w|sorted e w=>subst e;exact jE w λv w=>isRef w λa w=>EY w
def Pt.abw{n:String}{vs:ai}(hw:p0 n (vs.map er) K.H Q):K.Wp (call (.type n) vs) (Er Q) X:=by
 cases hw with
 |int e w=>subst e;exact jE w λv w=>isBool w λb w=>call_int_bool (K.fin w rfl _)|str e w=>subst e;exact jE w λv w=>oy w (λi t w=>P.str_of_int (digits w.1) (K.fin w.2 rfl _)) (λx t w=>P.str_of_str (K.nM w rfl)) λj w=>w.elim|list e w=>subst e;exact jE w λv w=>isRef w λa w=>QO w
end
def Ends(F:Fix)(fr:List Env)(H:Hp)(s:Shared)(Q:dm)(X:bA)(r:Result)(s':Shared):Prop:=match r with|.ok (.ret v)=>F.p6 fr H s.heap (Er Q) v s'|.ok _=>False|.error e=>F.XP fr H s.heap X e s'
def oD(F:Fix)(sp:Spec)(N:Nat):Prop:=∀(f:Addr)(vs:ai)(A:Around)(fr:List Env)(H:Hp)(s:Shared)(Q:dm)(X:bA),
 F.tb.kind f=.fn->F.R H s->Frs F A fr H s.heap->A.depth+2*N<=980->A.units+50*N<=9800->sp f (vs.map er) H Q X->
 codeAny F.M A (.call (.ref f) ⟨vs,[]⟩) (Ends F fr H s Q X) s
def Ends.fl{F:Fix}{fr:List Env}{H:Hp}{s:Shared}{Q:dm}{X:bA}{P:A1}{r:Result}{s':Shared}(h:Ends F fr H s Q X r s')(k1:∀v,F.p6 fr H s.heap (Er Q) v s'->P (.ok (.ret v)) s')(k2:∀e,F.XP fr H s.heap X e s'->P (.error e) s'):P r s':=by
 cases r with
 |error e=>exact k2 e h|ok f=>cases f with
  |ret v=>exact k1 v h|_=>exact h.elim
def EZ{s:Shared}{l:Addr}{x:Value}{A:Around}{E:gp}{prog:Program}{w:World}{Q:Jo}(hT:s.TypeIs (.ref l) "list"){items:Array Value}{n:Nat}(ho:s.heap.get? l=some {cls:=.type "list",data:=.seq items n})(hq:Q () s):wpAny (model prog w) A (checkBoundCall "list.append" ⟨[.ref l,x],[]⟩) Q E s:=by
 unfold checkBoundCall;rw[show Manifest.signature? "list.append"=some ((Manifest.signature? "list.append").get pX)from by simp];rw[show builtinKind "list.append"=some .method from by first|rfl|decide+kernel]
 dsimp only
 rw[aB aP];refine ae (wpAny_isInstance hT (b:=false) (by rw[eI];kernel_rfl) ?_);rw[aB pX];refine ae (m:=isType _) (ae (m:=loadHead _) (wpAny_loadPart ho (ax ?_)));rw[aB c8];refine ae (wpAny_typeOf hT ?_)
 dsimp only
 refine wpAny_of_eq (a:=()) (aO) hq
def E0{s:Shared}{a l:Addr}{x:Value}{items:Array Value}{n:Nat}{dd sl}{A:Around}{E:gp}{prog:Program}{w:World}{Q:gp}(ho:s.heap.get? a=some ⟨.type "builtin_function_or_method",dd,.fields #[.builtin "list.append",.ref l],sl⟩)
  (hl:s.heap.get? l=some {cls:=.type "list",data:=.seq items n})
  (hsz:items.size<=sizeLine) (hQ:∀h',h'.PlainList l (items.push x)->Heap.SameBut l s.heap h'->Q .none {s with heap:=h'}):
  wpAny (model prog w) A (call (.ref a) [x]) Q E s:=by
 refine wpAny_call (codeAny_of_tree ?_)
 show wpAny _ A.in1 (callAny (.ref a) ⟨[x],[]⟩) _ _ s
 simp only[callAny];refine ae (wpAny_load ho ?_);simp only[show(Value.type "builtin_function_or_method"==Value.type "method"||Value.type "builtin_function_or_method"==Value.type "builtin_function_or_method"||Value.type "builtin_function_or_method"==Value.type "method-wrapper")=true by decide,if_true]
 show wpAny _ _ (if(Value.type "builtin_function_or_method"!=Value.type "method")=true then _ else _) _ _ _
 rw[av aP];refine ae (EZ ⟨_,hl,rfl⟩ hl ?_);refine ae (ax (ax ?_));refine⟨Code.quiet_builtin _ pX,codeAny_builtin entry_list_append ?_⟩
 show wpAny _ _ (updateSeq l (·.push x)>>=λj=>ret .none) _ _ s
 refine ae ?_;refine wpAny_updateSeq (hz:=hsz) (_hz':=by simp;omega) hl rfl (ax (hQ _ ⟨n+1,?_⟩ (Heap.SameBut.update ..)));rw[Heap.get?_update_self _ hl (by rw[Obj.mapSeq_push_plain];rfl),Obj.mapSeq_push_plain]
def CO{h:Heap}{a l:Addr}{dd sl}{M:Model}(ho:h.get? a=some ⟨.type "builtin_function_or_method",dd,.fields #[.builtin "list.append",.ref l],sl⟩):Looks M h (keeperOf (.ref a)) .machine:=by
 unfold keeperOf;refine Looks.andThen (Looks.ld ho) ?_;exact Looks.of_pure (rfl)
theorem oE{α β:Type}(f:α->β):∀(l:List α)(i:Nat),(l.eraseIdx i).map f=(l.map f).eraseIdx i
 |[],_=>rfl|a::l,0=>rfl
 |a::l,i+1=>by simp[oE f l i]
theorem oF{α:Type}(x:α):∀(l:List α)(i:Nat),i<=l.length->l.insertIdx i x=l.take i++x::l.drop i
 |l,0,_=>rfl|[],i+1,h=>by simp at h
 |a::l,i+1,h=>by simp[oF x l i (by simpa using h)]
section
variable{K:Pt}{Q:dm}{X:bA}
def Pt.bound{a:Addr}{xs:ai}(ha:K.H a=some (.list xs))(hw:dj (.app a) K.H Q):K.Wp (getAttr (.ref a) (ofString "append") true) (Er Q) X:=by
 obtain⟨items,n,ho,_⟩:=fo K.R ha;obtain⟨F,A,fr,H,⟨h,g,d,t,os⟩,N,R,hf,hd,hu⟩:=K;exact get_append ho rfl rfl (λj e=>by cases e) (Pt.new (K:=⟨F,A,fr,H,⟨h,g,d,t,os⟩,N,R,hf,hd,hu⟩) (rK a) (.app a) ⟨none,#[],fa _ rfl⟩ hw (t+1))
def Pt.changed{a:Addr}{xs ys:ai}{h':Heap}(h1:K.H a=some (.list xs))(hs:Heap.SameBut a K.s.heap h'){items:Array Value}(hp:h'.PlainList a items)(hm:items.toList.map er=ys)(hz:ys.length<=aq){v w:Value}(hq:Q w (K.H.set a (.list ys)))(e:er v=w):
  K.fk (Er Q) v {K.s with heap:=h'}:=⟨_,by subst e;exact hq,Rel.put (o':=.list ys) K.R h1 rfl hs ⟨_,hp,hm,hz⟩ K.s.toks,Ext.put _ h1 rfl hs⟩
def Pt.mapped{f:Array Value->Array Value}{a:Addr}{xs ys:ai}(h1:K.H a=some (.list xs)){items:Array Value}{n:Nat}(ho:K.s.heap.get? a=some {cls:=.type "list",data:=.seq items n})(hm:(f items).toList.map er=ys)(hz:ys.length<=aq){v w:Value}(hq:Q w (K.H.set a (.list ys)))(e:er v=w):
  K.fk (Er Q) v {K.s with heap:=K.s.heap.update a (Obj.mapSeq f)}:=K.changed h1 (Heap.SameBut.update ..) ⟨_,IsL.update (n:=n) ho f⟩ hm hz hq e
def wM{xs:ai}{x:Value}(h:xs.length<aq):(xs++[x]).length<=aq:=by rw[aE];exact h
def map_push{items:Array Value}{x:Value}:(items.push x).toList.map er=items.toList.map er++[er x]:=by rw[Array.toList_push,bM];rfl
def E1{l:Addr}{x:Value}(w:ke l K.H Q (er x)):K.Wp (call (.builtin "list.append") [.ref l,x]) (Er Q) X:=by
 obtain⟨xs,h1,hl,hq⟩:=w;obtain⟨items,n,ho,rfl,hz,_⟩:=fo K.R h1;exact wpAny_list_append_plain ⟨n,ho⟩ (λh' hp hs=>K.changed h1 hs hp map_push (wM hl) hq rfl) (by rw[hz];exact cM hl)
def QS{a l:Addr}{x:Value}{xs:ai}(h1:K.H a=some (.app l))(h3:K.H l=some (.list xs))(hl:xs.length<aq)(hq:Q .none (K.H.set l (.list (xs++[er x])))):K.Wp (call (.ref a) [x]) (Er Q) X:=by
 obtain⟨dd,sl,ho⟩:=K.R.objs a _ h1;obtain⟨items,n,OZ,rfl,hz,_⟩:=fo K.R h3;exact E0 ho OZ (by rw[hz];exact cM hl) λh' hp hs=>K.changed h3 hs hp map_push (wM hl) hq rfl
def Frs.under{F:Fix}{A:Around}{fr:List Env}{H:Hp}{h:Heap}{cd:Code}(hf:Frs F A fr H h)(he:cd.envs=[]):Frs F (A.under cd) fr H h:=
 ⟨by show pushEnvs cd.envs A.frames=some fr;rw[he];exact hf.stack,hf.ow,hf.off,hf.handled⟩
def QT(K:Pt)(VT ob2:Obj)(o1 o2:MO)(h1:je (K.F.prog,K.F.w) (K.s.heap.push VT) K.s.heap.objs.size o1)(h2:je (K.F.prog,K.F.w) ((K.s.heap.push VT).push ob2) (K.s.heap.objs.size+1) o2):
  ∃n:Nx K,n.H=(K.H.set K.s.heap.objs.size o1).set (K.s.heap.objs.size+1) o2/\n.s={K.s with heap:=(K.s.heap.push VT).push ob2}:=by
 have e:K.s.heap.objs.size+1=(K.s.heap.push VT).objs.size:=(Heap.size_push ..).symm;rw[e]at h2⊢;have R1:=K.R.alloc VT o1 h1 K.s.toks;exact⟨⟨_,_,Rel.alloc R1 ob2 o2 h2 K.s.toks,(Ext.alloc K.R _ VT o1 h1).trans (Ext.alloc R1 _ ob2 o2 h2)⟩,rfl,rfl⟩
end
section
variable{K:Pt}{Q:dm}{X:bA}{sp:Spec}
def Pt.d2(K:Pt):K.A.depth+2*K.N<=980:=aa K.hd aP
def Pt.u2(K:Pt):K.A.units+50*K.N<=9800:=aa K.hu aP
def Pt.calls{f:Value}{vs:ai}(h:codeAny K.F.M K.A (.call f ⟨vs,[]⟩) (Ends K.F K.fr K.H K.s Q X) K.s):K.Wp (call f vs) (Er Q) X:=
 wpAny_call (codeAny_mono h λr s' hr=>by
  cases r with
  |error e=>exact hr|ok f=>cases f<;>exact hr)
def Pt.E2(S:oD K.F sp K.N){f:Addr}{vs:ai}(k:K.F.tb.kind f=.fn)(h:sp f (vs.map er) K.H Q X):K.Wp (call (.ref f) vs) (Er Q) X:=
 K.calls (S f vs K.A K.fr K.H K.s Q X k K.R K.hf K.d2 K.u2 h)
def QU(h:Heap):RNs (h.push emptyDict) h.objs.size []:=⟨[],0,fa _ rfl,λe he=>(nomatch he),λx=>rfl,rfl⟩
def Pt.make(S:oD K.F sp K.N){a i:Addr}{vs:ai}(hk:K.F.tb.kind a=.cls i)
  (hw:∀d x,K.H d=none->K.H x=none->x≠d->sp i (.ref x::vs.map er) ((K.H.set d (.ns [])).set x (.inst a d)) (λv h'=>v=.none/\Q (.ref x) h') X):
  K.Wp (call (.ref a) vs) (Er Q) X:=by
 obtain⟨_,k2,k3,k4,k5⟩:=K.F.Wx a i hk;have XK:=K.F.X.keeps K.R.stays;obtain⟨n,e1,e2⟩:=QT K emptyDict (instObj a K.s.heap.objs.size) (.ns []) (.inst a K.s.heap.objs.size) (QU _) ⟨by
  have e:K.s.heap.objs.size+1=(K.s.heap.push emptyDict).objs.size:=(Heap.size_push ..).symm;exact e▸fa _ rfl,k2⟩
 have hw2:=hw K.s.heap.objs.size (K.s.heap.objs.size+1) (K.R.fresh (eW _)) (K.R.fresh (nK (Nat.le_succ _))) (Nat.succ_ne_self _);rw[<-e1]at hw2;refine wpAny_call (make_core (makes_of XK k3) (looks_findIn XK k4) (λself=>bind_fn XK self (K.F.Wv i k5).2.1) (.inl rfl) ?_)
 show codeAny _ _ _ _ {K.s with heap:=_}
 refine e2▸?_;refine codeAny_mono (S i (.ref (K.s.heap.objs.size+1)::vs) (K.A.under (.builtin "type.__call__" ⟨.ref a::vs,[]⟩)) K.fr n.H n.s _ X k5 n.R (n.p.hf.under rfl) ?_ ?_ hw2) λr s' hr=>hr.fl (λv p=>?_) λj p=>n.exc p
 ·have:=K.hd;show K.A.depth+1+2*K.N<=980;lia
 ·have:=K.hu;show K.A.units+1+50*K.N<=9800;lia
 ·cases p with
  |mk H' q R' x'=>
   cases uY q.1;exact⟨rfl,H',q.2,R',n.x.trans x'⟩
end
def J9(o:cj):aX (fJ o) λxs=>o=some (.list xs):=by
 cases o with
 |none=>exact trivial|some m=>cases m<;>first|exact trivial|exact rfl
def eN{o:cj}{xs:ai}(h:fJ o=some xs):o=some (.list xs):=az (C:=λxs=>o=some (.list xs)) (J9 o) h
noncomputable def rL(m:Me)(f:Addr):Value:=match m with
 |.append=>.builtin "list.append"|.extend=>.builtin "list.extend"|.pop=>.builtin "list.pop"|.insert=>.builtin "list.insert"|.get=>.builtin "dict.get"
 |.own _=>.ref f
def Keeps(M:Model)(h:Heap)(f:Value):Prop:=∃k,(k=Keeper.frame\/k=Keeper.machine\/k=Keeper.boundFrame)/\Looks M h (keeperOf f) k
def mC{M:Model}{h:Heap}{f:Value}(k:Looks M h (keeperOf f) .machine):Keeps M h f:=⟨.machine,.inr (.inl rfl),k⟩
def isCall{f:Value}{sp:Spec}{tb:Tab}{vs:ai}{h:Hp}{Q:dm}{X:bA}{C:hJ}(w:pf sp tb (er f) vs h Q X)(kr:∀a,dD sp tb vs h Q X a->C (.ref a))(kb:∀n,kc tb n vs h Q->C (.builtin n))(kt:∀n,p0 n vs h Q->C (.type n)):C f:=by cases f<;>first|exact w.elim|exact kr _ w|exact kb _ w|exact kt _ w
section
variable{K:Pt}{Q:dm}{X:bA}{sp:Spec}
def WS{a l:Addr}{x:Value}(h1:K.H a=some (.app l))(w:ke l K.H Q (er x)):K.Wp (PySem.call (.ref a) [x]) (Er Q) X:=by
 obtain⟨xs,h3,hl,hq⟩:=w;exact QS h1 h3 hl hq
def Pt.J'(S:oD K.F sp K.N){f:Value}{vs:ai}(hw:pf sp K.F.tb (er f) (vs.map er) K.H Q X):K.Wp (call f vs) (Er Q) X:=
 isCall (C:=λf=>K.Wp (call f vs) (Er Q) X) hw (λa w=>by
  cases w with
  |fn k w=>exact K.E2 S k w|cls i k w=>exact K.make S k w|app l h w=>exact jE w λv w=>WS h w) (λn w=>K.abv w) λn w=>K.abw w
def Pt.keeps{f:Value}{vs:ai}(hw:pf sp K.F.tb (er f) vs K.H Q X):Keeps K.F.M K.s.heap f:=
 isCall (C:=λf=>Keeps K.F.M K.s.heap f) hw (λa w=>by
  cases w with
  |fn k w=>exact keeps_K (K.F.Wv a k).1 K.s.heap (K.F.X.keeps K.R.stays)|cls i k w=>exact keeps_K (K.F.Wx a i k).1 K.s.heap (K.F.X.keeps K.R.stays)|app l h w=>
   obtain⟨dd,sl,ho⟩:=K.R.objs a _ h;exact mC (CO ho)) (λn w=>mC (Looks.of_pure rfl)) λn w=>mC (Looks.of_pure rfl)
inductive Recv(K:Pt)(v:Value)(m:Me)(P:Addr->Prop):Prop
 |mk (f):P f->(∀pl (Q:Value×ai->bW) E,Q (rL m f,[v]) K.s->wpAny K.F.M K.A (getMethod v m.str pl) Q E K.s)->((∃n,m=.own n)->K.F.tb.kind f=.fn)->Recv K v m P
def ve{a:Addr}{P:Addr->Prop}(m:Me){id:String}(w:Got (fJ (K.H a)) λj=>P 0)(e:∀f,rL m f=.builtin id)(slot:Slot "list" m.str id)(tn:typeOf (.builtin id)=pure (.type "method_descriptor"))(n:∀n,m≠.own n):Recv K (.ref a) m P:=by
 cases w with
 |mk xs h w=>
  obtain⟨items,k,ho,_⟩:=fo K.R (eN h);exact⟨0,w,λpl Q E hq=>getMethod_builtin ⟨_,ho,rfl⟩ PySem.F.plainAttrs_list slot tn (λb e=>by cases e;exact⟨_,ho,rfl⟩) (by rw[e]at hq;exact hq),λ⟨k,e⟩=>absurd e (n k)⟩
def QV{a:Addr}{P:Addr->Prop}(w:Got (dictOf (K.H a)) λj=>P 0):Recv K (.ref a) .get P:=by
 cases w with
 |mk es h w=>
  cases oz K.R h with
  |mk kvs hd _=>
   obtain⟨o,es',ep,ho,hc,_⟩:=hd;exact⟨0,w,λpl Q E hq=>getMethod_builtin ⟨_,ho,hc.1⟩ PySem.F.plainAttrs_dict PySem.F.slot_dict_get PySem.F.type_dict_get (λb e=>by cases e;exact⟨_,ho,hc.2.1⟩) hq,λ⟨k,e⟩=>nomatch e⟩
def Ka{fs:List (At×Value)}{n:Str}(h:(fs.all λp=>p.1.str !=n)=true):nsMap fs n=none:=by
 unfold nsMap;rw[Option.map_eq_none_iff,List.find?_eq_none];intro p hp q;have:=bQ h p hp;rw[bne,q]at this;exact iM this
def Kc{es:List DictEntry}{n:Str}{k:Nat}(h:nsFind es.toArray n=none)(hs:StrKeys es.toArray):(lookIn n (PySem.W.dictOf es k)).map (·.isSome)=some false:=by
 unfold nsFind findBy at h;rw[List.find?_toArray,Option.map_eq_none_iff]at h;have hrk:es.any (·.refKey)=false:=by
  rw[List.any_eq_false];intro e he;obtain⟨k,t,q⟩:=hs e (by rw[List.mem_toArray];exact he);unfold DictEntry.refKey;exact q▸c8
 rw[lookIn_dict];unfold getL;rw[h,hrk];rfl
def QW{a:Addr}{n:Str}{P:Addr->Prop}(w:AY K.F.tb n K.H P a):Recv K (.ref a) (.own n) P:=by
 obtain⟨cl,d,fs,f,h1,h2,h3,h4,hk⟩:=w;obtain⟨r1,D8⟩:=K.R.objs a _ h1;obtain⟨es,nn,r2,r3,r4,_⟩:=K.R.objs d _ h2;obtain⟨k1,k2⟩:=K.F.Ww cl n f h4;have h5:=r4 n;rw[Ka h3,Option.map_eq_none_iff]at h5;have c1:=plainGet_of (K.F.Qz cl D8).1;exact⟨f,hk,λpl Q E hq=>method_fn (K.F.X.keeps K.R.stays) (show PySem.W.InstAt _ a (instObj cl d) cl (some (PySem.W.dictOf es nn))from⟨r1,rfl,rfl,r2⟩) c1.1 c1.2 (k2 D8) (K.F.Wv f k1).2.1 (Kc h5 r3) hq,λj=>k1⟩
def Pt.recv{v:Value}{m:Me}{P:Addr->Prop}(hw:yC K.F.tb (er v) m K.H P):Recv K v m P:=isRef (C:=λv=>Recv K v m P) hw λa w=>by
 cases m with
 |append=>exact ve .append w (λj=>rfl) slot_list_append type_list_append nofun|extend=>exact ve .extend w (λj=>rfl) PySem.F.slot_list_extend PySem.F.type_list_extend nofun|pop=>exact ve .pop w (λj=>rfl) PySem.F.slot_list_pop PySem.F.type_list_pop nofun|insert=>exact ve .insert w (λj=>rfl) PySem.F.slot_list_insert PySem.F.type_list_insert nofun|get=>exact QV w|own n=>exact QW w
end
section
variable{K:Pt}{Q:dm}{X:bA}{sp:Spec}
def oG{items:Array Value}(h:(items.toList.map er).length<=aq):items.size<=sizeLine:=by rw[au,cL]at h;exact h
def E3{a b:Addr}(w:n9 a K.H Q b):K.Wp (call (.builtin "list.extend") [.ref a,.ref b]) (Er Q) X:=by
 obtain⟨xs,ys,h1,h2,yn,hl,hq⟩:=w;obtain⟨i1,n1,ho1,rfl,_⟩:=fo K.R h1;obtain⟨i2,n2,ho2,rfl,_⟩:=fo K.R h2;have e:i1.toList.map er++i2.toList.map er=(i1++i2).toList.map er:=by rw[Array.toList_append,bM]
 rw[e]at hl hq;have hsz:i1.size+i2.size<=sizeLine:=(Array.size_append▸oG hl)
 exact call_meets PySem.F.slot_list_extend ⟨_,ho1,rfl⟩ PySem.F.entry_list_extend (PySem.F.args_list_extend_2 _ _) (AutoSeq1.list_extend_list_list_0 a i1 n1 b i2 n2 (extend_door hsz) (aa (aW _ _) hsz) (hP hsz)) ⟨ho1,ho2,K.mapped (f:=(·++i2)) h1 ho1 rfl hl hq rfl⟩
def Ke{l:Array Value}{xs:ai}{x:Value}(h:l.toList.map er=xs++[x]):∃p y,l=(p++[y]).toArray/\p.map er=xs/\er y=x:=by
 obtain⟨p,q,e1,e2,e3⟩:=List.map_eq_append_iff.mp h;obtain⟨y,rfl,e4⟩:=List.map_eq_singleton_iff.mp e3;exact⟨p,y,ak List.toArray e1,e2,e4⟩
def WT{a:Addr}(w:AZ a K.H Q):K.Wp (call (.builtin "list.pop") [.ref a]) (Er Q) X:=by
 obtain⟨xs,x,h1,hq⟩:=w;obtain⟨items,n,ho,hm,hz,iW⟩:=fo K.R h1;obtain⟨p,y,rfl,rfl,rfl⟩:=Ke hm;have hk:(p++[y]).toArray.size-1=p.length:=by rw[List.size_toArray,aE];rfl
 have hy:(p++[y]).toArray[(p++[y]).toArray.size-1]? =some y:=by rw[hk,List.getElem?_toArray];exact List.getElem?_concat_length
 refine call_meets PySem.F.slot_list_pop ⟨_,ho,rfl⟩ PySem.F.entry_list_pop (PySem.F.args_list_pop_1 _) (MeetsSeq.list_pop_last a _ n y hy (hz▸iW)) ⟨ho,K.mapped h1 ho ?_ ?_ hq rfl⟩
 ·rw[hk,kl_erase,c9]
 ·rw[aE]at iW;exact de iW
def QX{a:Addr}{i:Int}{t:Tok}(w:uL a K.H Q i):K.Wp (call (.builtin "list.pop") [.ref a,.int i t]) (Er Q) X:=by
 obtain⟨xs,x,h1,h2,h3,h4,hq⟩:=w;obtain⟨items,n,ho,rfl,hz,iW⟩:=fo K.R h1;obtain⟨y,hy,rfl⟩:=wI h4;have hsz:=oG iW;rw[<-hz]at h3;refine call_meets PySem.F.slot_list_pop ⟨_,ho,rfl⟩ PySem.F.entry_list_pop (PySem.F.args_list_pop_2 _ _) (MeetsSeq.list_pop_at a _ n i t _ y (fitsIndex_of h2 ?_) (seqIndex_of h2 h3) hy hsz) ⟨ho,K.mapped h1 ho ?_ (aa (List.length_eraseIdx_le _ _) iW) hq rfl⟩
 ·exact Int.lt_trans (Int.lt_of_lt_of_le h3 (eU.mpr hsz)) aP
 ·unfold Array.eraseIdxIfInBounds;rw[dif_pos ((Int.toNat_lt h2).mpr h3),Array.toList_eraseIdx,oE]
def E4{a:Addr}{i:Int}{t:Tok}{u:Value}(w:oa a K.H Q (er u) i):K.Wp (call (.builtin "list.insert") [.ref a,.int i t,u]) (Er Q) X:=by
 obtain⟨xs,h1,h2,h3,h4,hq⟩:=w;obtain⟨items,n,ho,rfl,hz,iW⟩:=fo K.R h1;have hsz:=oG iW;have hs:sizeLine=2^24:=rfl;rw[<-hz]at h4;have Kg:=fitsIndex_of h3 (Int.lt_of_le_of_lt h4 (Int.lt_of_le_of_lt (eU.mpr hsz) (by rw[hs];decide)));have hk:(if i<0 then(i+(items.size:Int)).toNat else min i.toNat items.size)=i.toNat:=by rw[aB (Int.not_lt.mpr h3)];exact Nat.min_eq_left (Int.toNat_le.mpr h4)
 refine call_meets PySem.F.slot_list_insert ⟨_,ho,rfl⟩ PySem.F.entry_list_insert (PySem.F.args_list_insert_3 _ _ _) (AutoSeq1.list_insert_list_int_val_1 a _ n i t u (by rw[Kg];exact c8) hsz) ⟨ho,K.mapped h1 ho ?_ (aa List.length_insertIdx_le_succ h2) hq rfl⟩;have h5:i.toNat<=items.toList.length:=by rw[cL];exact Int.toNat_le.mpr h4
 rw[hk]
 cases items with
 |mk l=>rw[kl_ins_eq,oF _ _ _ (by rw[au];exact h5),bM,List.map_cons,List.map_take,List.map_drop]
def WU{a:Addr}{k:Str}{t:Tok}(w:qU a K.H Q .none k):K.Wp (call (.builtin "dict.get") [.ref a,.str k t]) (Er Q) X:=by
 obtain⟨es,h1,hq⟩:=w
 cases oz K.R h1 with
 |mk kvs hd yZ=>
  refine call_meetsIn PySem.F.slot_dict_get hd.typeIs PySem.F.entry_dict_get (PySem.F.args_dict_get_2 _ _) (meets_dict_get (PySem.strKind K.F.prog K.F.w) a (strKind_is K.F.prog K.F.w k t) (dQ.mpr yZ)) ⟨_,hd.mapOf,K.fin hq ?_ _⟩;rw[<-jh];cases valueAt kvs k<;>rfl
def QY{a:Addr}{k:Str}{t:Tok}{u:Value}(w:qU a K.H Q (er u) k):K.Wp (call (.builtin "dict.get") [.ref a,.str k t,u]) (Er Q) X:=by
 obtain⟨es,h1,hq⟩:=w
 cases oz K.R h1 with
 |mk kvs hd yZ=>
  refine call_meetsIn PySem.F.slot_dict_get hd.typeIs PySem.F.entry_dict_get (PySem.F.args_dict_get_3 _ _ _) (meets_dict_get_default (PySem.strKind K.F.prog K.F.w) a (strKind_is K.F.prog K.F.w k t) (dQ.mpr yZ) u) ⟨_,hd.mapOf,K.fin hq ?_ _⟩;rw[<-jh];cases valueAt kvs k<;>rfl
def Pt.jU(S:oD K.F sp K.N){v:Value}{m:Me}{f:Addr}{vs:ai}(hk:(∃n,m=.own n)->K.F.tb.kind f=.fn)(hw:gJ sp (er v) m f (vs.map er) K.H Q X):K.Wp (call (rL m f) (v::vs)) (Er Q) X:=
 isRef (C:=λv=>K.Wp (call (rL m f) (v::vs)) (Er Q) X) hw λa w=>by
 cases m with
 |append=>exact jE w λv w=>E1 w|extend=>exact jE w λv w=>isRef w λb w=>E3 w|pop=>cases vs with
  |nil=>exact WT w|cons v r=>exact jE (C:=λvs=>K.Wp (call _ (.ref a::vs)) (Er Q) X) w λv w=>isInt w λi t w=>QX w
 |insert=>exact EX w λv u w=>isInt w λi t w=>E4 w|get=>cases vs with
  |nil=>exact w.elim|cons v r=>cases r with
   |nil=>exact isStr w λk t w=>WU w|cons d r=>exact jE (C:=λr=>K.Wp (call _ (.ref a::v::r)) (Er Q) X) w λd w=>isStr w λk t w=>QY w
 |own n=>exact K.E2 S (hk ⟨n,rfl⟩) w
end
structure Kt(c:Sc) extends Pt where
 env:Env
 ρ:aS
 sp:Spec
 S:oD F sp N
 hb:lF F env fr c ρ H s.heap
@[reducible] def Kt.at{c:Sc}(K:Kt c)(n:Nx K.toPt):Kt c:={K with toPt:=n.p,hb:=K.hb.ext n.x}
abbrev Kt.wE{c:Sc}(K:Kt c)(m:E)(Q:dm)(X:bA):Prop:=eB K.sp K.F.tb K.ρ m K.H Q X
abbrev Tb(P:Bool->bA):Value->Hp->Prop:=λv h=>dh v λb=>P b h
def SE(c:Sc)(m:E)(x:Expr):Prop:=∀(K:Kt c) Q X,K.wE m Q X->K.Wp (eval x K.env) (Er Q) X
def ST(c:Sc)(m:E)(x:Expr):Prop:=∀(K:Kt c) P X,K.wE m (Tb P) X->K.Wp (isTrue x K.env (eval x K.env)) P X
structure D9(c:Sc)(m:E)(xs:List Expr):Prop where
 star:∀env,(starEach xs env).all (λp=> !p.1)=true
 none:∀env sp tb ρ H Q X,starEach xs env=[]->fP sp tb ρ m H Q X->Q [] H
 run:∀(K:Kt c) pos Q X,fP K.sp K.F.tb K.ρ m K.H Q X->K.Wp (spliced (backTo pos (starEach xs K.env))) (λvs h=>vs.length=xs.length/\Q (vs.map er) h) X
structure SB(c:Sc)(op:BoolOp)(m:E)(xs:List Expr):Prop where
 e:∀(K:Kt c) pos Q X,K.wE m Q X->K.Wp (boolOp pos op (evalEach xs K.env)) (Er Q) X
 t:∀(K:Kt c) P X,K.wE m (Tb P) X->K.Wp (allTrue op xs K.env) P X
structure SC(c:Sc)(m:E)(j3:List CmpOp)(xs:List Expr):Prop where
 e:∀(K:Kt c) pos v Q X,Jz K.sp K.F.tb K.ρ m (er v) K.H Q X->K.Wp (compareChain pos v j3 (evalEach xs K.env)) (Er Q) X
 t:∀(K:Kt c) pos v P X,Jz K.sp K.F.tb K.ρ m (er v) K.H (Tb P) X->K.Wp (testChain pos v j3 (evalEach xs K.env)) P X
section
variable{c:Sc}{K:Kt c}{α β:Type}{Q:β->bA}{X:bA}
def Kt.seq{t:Sem Value}{f:Value->Sem β}{P:dm}(h:K.Wp t (Er P) X)(k:∀v (n:Nx K.toPt),P (er v) n.H->(K.at n).Wp (f v) Q X):K.Wp (t>>=f) Q X:=K.toPt.seq h k
def Kt.tq{t:Sem α}{f:α->Sem β}{P:α->bA}(h:K.Wp t P X)(k:∀v (n:Nx K.toPt),P v n.H->(K.at n).Wp (f v) Q X):K.Wp (t>>=f) Q X:=K.toPt.seq h k
def Pt.truth{K:Pt}{v:Value}{P:Bool->Prop}{f:Bool->Sem β}(w:dh (er v) P)(k:∀b,v=.bool b->P b->K.Wp (f b) Q X):K.Wp (holding [v] (truthy v)>>=f) Q X:=
 isBool (C:=λv=>(∀b,v=.bool b->P b->K.Wp (f b) Q X)->K.Wp (holding [v] (truthy v)>>=f) Q X) w (λb w k=>ae (bF (wpAny_truthy_bool (k b rfl w)))) k
end
section
variable{c:Sc}{m l r a b e i u:E}{x y z:Expr}{xs:List Expr}{p:Pos}
def zb(h:SE c m x)(he:∀env whole,isTrue x env whole=(do let v<-whole;standAt x.pos;holding [v] (truthy v))):ST c m x:=λK P X w=>by
 rw[he];refine K.seq (h K _ X w) λv n w=>Pt.d5 ?_;exact isBool (C:=λv=>(K.at n).Wp (holding [v] (truthy v)) P X) w λb w=>bF (wpAny_truthy_bool ((K.at n).here w))
def WV(h:SE c m x):SE c (.not m) (.UnaryOp .Not x p):=λK Q X w=>by
 show K.Wp (do let v<-eval x K.env;standAt p;holding [v] (unaryOp .Not v)) _ _
 refine K.seq (h K _ X w) λv n w=>Pt.d5 (Pt.hold ?_);exact isBool (C:=λv=>(K.at n).Wp (unaryOp .Not v) (Er Q) X) w λb w=>not_of (wpAny_truthy_bool ((K.at n).here w))
def WW(h:ST c m x):ST c (.not m) (.UnaryOp .Not x p):=λK P X w=>by
 show K.Wp (do return !(<-isTrue x K.env (eval x K.env))) _ _
 refine K.tq (h K (λb h=>P (!b) h) X ?_) λb n w=>Pt.pure w;exact w
def WX(h:SE c m x):SE c (.neg m) (.UnaryOp .USub x p):=λK Q X w=>by
 show K.Wp (do let v<-eval x K.env;standAt p;holding [v] (unaryOp .USub v)) _ _
 refine K.seq (h K _ X w) λv n w=>Pt.d5 (Pt.hold ?_);exact isInt (C:=λv=>(K.at n).Wp (unaryOp .USub v) (Er Q) X) w λi t w=>Pt.neg w
def WY{op:Operator}(hl:SE c l x)(hr:SE c r y):SE c (.bin op l r) (.BinOp x op y p):=λK Q X w=>by
 show K.Wp (do let a<-eval x K.env;let b<-holding [a] (eval y K.env);standAt p;operate [a,b] (binaryOp op a b)) _ _
 exact K.seq (hl K _ X w) λv n w=>(K.at n).seq (Pt.hold (hr (K.at n) _ X w)) λu n2 w=>Pt.d5 (Pt.QB (Pt.bin w))
def Kt.cond{K:Kt c}{β:Type}{A B:Prop}{t:Bool}{f:Bool->Sem β}{Q:β->bA}{X:bA}(w:mO t A B)(ka:A->K.Wp (f true) Q X)(kb:B->K.Wp (f false) Q X):K.Wp (f t) Q X:=by
 cases t with
 |true=>exact ka w|false=>exact kb w
def WZ{t:E}(ht:ST c t x)(ha:SE c a y)(hb:SE c b z):SE c (.ite t a b) (.IfExp x y z p):=λK Q X w=>by
 show K.Wp (do if<-isTrue x K.env (eval x K.env)then eval y K.env else eval z K.env) _ _
 exact K.tq (ht K _ X w) λt n w=>Kt.cond (K:=K.at n) (f:=λt=>if t=true then eval y K.env else eval z K.env) w (ha (K.at n) _ X) (hb (K.at n) _ X)
def W0{t:E}(ht:ST c t x)(ha:ST c a y)(hb:ST c b z):ST c (.ite t a b) (.IfExp x y z p):=λK P X w=>by
 show K.Wp (do if<-isTrue x K.env (eval x K.env)then isTrue y K.env (eval y K.env)else isTrue z K.env (eval z K.env)) _ _
 exact K.tq (ht K _ X w) λt n w=>Kt.cond (K:=K.at n) (f:=λt=>if t=true then isTrue y K.env (eval y K.env)else isTrue z K.env (eval z K.env)) w (ha (K.at n) _ X) (hb (K.at n) _ X)
def W2{op:BoolOp}(h:SE c m x)(t:ST c m x):SB c op m [x]:=⟨λK pos Q X w=>h K Q X w,λK P X w=>by
 show K.Wp (do match op,<-isTrue x K.env (eval x K.env)with|.And,false=>pure false|.Or,true=>pure true|_,_=>pure (op==.And)) _ _
 refine K.tq (t K _ X w) λb n w=>?_;cases op<;>cases b<;>exact Pt.pure w⟩
def W3(h:SE c l x)(t:ST c l x)(r':SB c .And r (y::xs)):SB c .And (.and l r) (x::y::xs):=⟨λK pos Q X w=>by
 show K.Wp (do
   let v<-eval x K.env
   standAt pos
   let t<-holding [v] (truthy v)
   match BoolOp.And,t with
   |.And,false|.Or,true=>pure v
   |_,_=>boolOp pos .And (evalEach (y::xs) K.env)) _ _
 refine K.seq (h K _ X w) λv n w=>Pt.d5 (Pt.truth w λb e w=>?_);cases e
 cases b with
 |false=>exact Pt.pure w|true=>exact r'.e (K.at n) pos Q X w,λK P X w=>by
 show K.Wp (do match BoolOp.And,<-isTrue x K.env (eval x K.env)with|.And,false=>pure false|.Or,true=>pure true|_,_=>allTrue .And (y::xs) K.env) _ _
 refine K.tq (t K _ X w) λb n w=>?_
 cases b with
 |false=>exact Pt.pure w|true=>exact r'.t (K.at n) P X w⟩
def abx(h:SE c l x)(t:ST c l x)(r':SB c .Or r (y::xs)):SB c .Or (.or l r) (x::y::xs):=⟨λK pos Q X w=>by
 show K.Wp (do
   let v<-eval x K.env
   standAt pos
   let t<-holding [v] (truthy v)
   match BoolOp.Or,t with
   |.And,false|.Or,true=>pure v
   |_,_=>boolOp pos .Or (evalEach (y::xs) K.env)) _ _
 refine K.seq (h K _ X w) λv n w=>Pt.d5 (Pt.truth w λb e w=>?_);cases e
 cases b with
 |true=>exact Pt.pure w|false=>exact r'.e (K.at n) pos Q X w,λK P X w=>by
 show K.Wp (do match BoolOp.Or,<-isTrue x K.env (eval x K.env)with|.And,false=>pure false|.Or,true=>pure true|_,_=>allTrue .Or (y::xs) K.env) _ _
 refine K.tq (t K _ X w) λb n w=>?_
 cases b with
 |true=>exact Pt.pure w|false=>exact r'.t (K.at n) P X w⟩
def QZ{op:BoolOp}(h:SB c op m (x::y::xs)):SE c m (.BoolOp op (x::y::xs) p):=λK Q X w=>h.e K p Q X w
def Q0{op:BoolOp}(h:SB c op m xs):ST c m (.BoolOp op xs p):=λK P X w=>wpAny_isTrue_BoolOp (h.t K P X w)
end
section
variable{c:Sc}{m l r a b e i o u es:E}{x y z:Expr}{xs:List Expr}{p:Pos}
def Q2{kk:Nat}:SE c (.lit .none) (.Constant .none kk p):=λK Q X w=>wpAny_Constant_none (K.nM w rfl)
def Kh{kk:Nat}{v:Bool}:SE c (.lit (.bool v)) (.Constant (.bool v) kk p):=λK Q X w=>wpAny_Constant_bool (K.nM w rfl)
def W4{kk:Nat}{v:Int}:SE c (.lit (int v)) (.Constant (.int v) kk p):=λK Q X w=>wpAny_Constant_int (K.fin w rfl _)
def W5{kk:Nat}{v:Str}:SE c (.lit (str v)) (.Constant (.str v) kk p):=λK Q X w=>wpAny_Constant_str (K.fin w rfl _)
def Kj{ρ:aS}{i:Nat}{P:hJ}(w:lL ρ[i]? P){C:Prop}(k:∀v,ρ[i]? =some (some v)->P v->C):C:=by
 cases e:ρ[i]? with
 |none=>rw[e]at w;exact w.elim|some u=>cases u with
  |none=>rw[e]at w;exact w.elim|some v=>rw[e]at w;exact k v e w
def rM{n:Str}(h:eP n=true):(n==("__debug__":Str))=false/\(n==("__classdict__":Str))=false:=by
 unfold eP at h;rw[dr,dr]at h;exact⟨Bool.not_eq_true' _|>.mp h.1.1,Bool.not_eq_true' _|>.mp h.1.2⟩
def wN{K:Kt c}{n:Str}{i:Nat}{v:Value}{Q:dm}{X:bA}(h3:c.im.lookup n=some i)(hk:c.names.lookup n=some .cell\/c.names.lookup n=some .free)(h1:eP n=true)(hv:K.ρ[i]? =some (some v))(w:Q v K.H):K.Wp (eval (.Name n p) K.env) (Er Q) X:=by
 obtain⟨a,_,e1,e2,_,e3,e4⟩:=K.hb.cells n i h3 hk;obtain⟨u,rfl,e5⟩:=e4 v hv;have k3:=hk.elim (λq=>(K.hb.knd n _ q).2.2 (.inl rfl)) λq=>(K.hb.knd n _ q).2.2 (.inr rfl);have d:=rM h1;refine wpAny_Name ?_ d.1;exact k3.elim (λq=>wpAny_loadName_cell K.hb.kind q e1 e3 (K.nM w e5)) λq=>wpAny_loadName_free K.hb.kind q e1 e3 (K.nM w e5) d.2
def O0{n:Str}{i:Nat}(h1:eP n=true)(h2:Et (c.names.lookup n)=true)(h3:c.im.lookup n=some i):SE c (.loc i) (.Name n p):=λK Q X w=>
 Kj w λv hv w=>by
  cases hk:c.names.lookup n with
  |none=>rw[hk]at h2;exact iM h2|some k=>
   rw[hk]at h2
   cases k with
   |«local»=>
    obtain⟨m,e1,e2⟩:=K.hb.ns;obtain⟨v',e3,e4⟩:=e2 n i v h3 hk hv;exact wpAny_Name (wpAny_loadName_local K.hb.kind ((K.hb.knd n _ hk).1 rfl) e1 e3 (K.nM w e4)) (rM h1).1
   |cell=>exact wN h3 (.inl hk) h1 hv w|free=>exact wN h3 (.inr hk) h1 hv w|_=>exact iM h2
def mD{K:Kt c}{n:Str}{v:Value}{Q:gp}{Ex:gp}(hk:c.names.lookup n=some .globalImplicit)(hv:gM.lookup n=some v\/(gM.lookup n=none/\kJ.lookup n=some v))(h1:eP n=true)(h:Q v K.s):wpAny K.F.M K.A (eval (.Name n p) K.env) Q Ex K.s:=by
 have hg:K.s.heap.Ns K.env.globals K.F.mg:=by rw[K.hb.glob];exact K.F.hg.keeps K.R.stays
 have hbn:K.s.heap.Ns K.env.builtins K.F.mb:=by rw[K.hb.blt];exact K.F.hb.keeps K.R.stays
 refine Name_function_global K.hb.kind ((K.hb.knd n _ hk).2.1 rfl) ?_ (rM h1).1;rcases hv with q|⟨q1,q2⟩
 ·exact loadGlobal_global hg (K.F.gl n v q) h
 ·have z:=K.F.bl n v q1 q2;exact loadGlobal_builtin hg z.1 hbn z.2 h
def W6:(gM++kJ).all (λp=>er p.2==p.2)=true:=by decide+kernel
def mem_lookup{α β:Type}[BEq α][LawfulBEq α]{x:α}{v:β}{l:List (α×β)}(h:l.lookup x=some v):(x,v)∈l:=by
 obtain⟨a,b,e,_⟩:=List.lookup_eq_some_iff.mp h;rw[e];exact fC a (.head b)
def W7{n:Str}{v:Value}(hv:gM.lookup n=some v\/(gM.lookup n=none/\kJ.lookup n=some v)):er v=v:=
 beq_iff_eq.mp (bQ W6 _ (List.mem_append.mpr (hv.imp mem_lookup λq=>mem_lookup q.2)))
def E5{n:Str}{v:Value}(h1:eP n=true)(hk:c.names.lookup n=some .globalImplicit)(hv:gM.lookup n=some v\/(gM.lookup n=none/\kJ.lookup n=some v)):SE c (.glob v) (.Name n p):=λK Q X w=>mD hk hv h1 (K.nM w (W7 hv))
def E6:D9 c .nil []:=⟨λj=>rfl,λj j j j j j j j w=>w,λK pos Q X w=>spliced_nil (K.here ⟨rfl,w⟩)⟩
structure CP(x:Expr):Prop where
 nb:∀n env whole,attributeBase x n env whole=whole
 st:∀xs env,starEach (x::xs) env=(false,eval x env)::starEach xs env
def vf(h0:CP x)(h:SE c e x)(hs:D9 c es xs):D9 c (.cons e es) (x::xs):=⟨λenv=>(by rw[h0.st];exact hs.star env),λenv j j j j j j q=>(by rw[h0.st]at q;cases q),λK pos Q X w=>by
 rw[h0.st];refine spliced_cons ?_;refine K.mono (h K _ X w) (λv n w=>?_) λj j q=>q;refine(K.at n).mono (hs.run (K.at n) pos _ X w) (λvs n2 w=>?_) λj j q=>n.exc q;exact⟨n2.H,⟨ak Nat.succ w.1,w.2⟩,n2.R,n.x.trans n2.x⟩⟩
def Q3(h:D9 c es xs)(hl:xs.length<1000):SE c (.list es) (.List xs p):=λK Q X w=>by
 show K.Wp (do standAt p;newList (<-spliced (backTo p (starEach xs K.env)))) _ _
 exact Pt.d5 (K.tq (h.run K p _ X w) λvs n w=>Pt.list (by rw[w.1];exact aa (cM hl) aP) w.2)
def W8{k:Nat}(h:D9 c es xs)(hl:xs.length<1000):SE c (.tup es) (.Tuple xs k p):=λK Q X w=>by
 show K.Wp (do standAt p;newTuple (<-spliced (backTo p (starEach xs K.env)))) _ _
 exact Pt.d5 (K.tq (h.run K p _ X w) λvs n w=>Pt.tup (by rw[w.1];exact aa (cM hl) aP) w.2)
def Q4{f:At}(hs:CP x)(h:SE c o x):SE c (.attr o f) (.Attribute x f.str p):=λK Q X w=>by
 show K.Wp (do
  let ov<-attributeBase x f.str K.env (eval x K.env)
  standAt p.atName
  let r<-holding [ov] (getAttr ov f.str true)
  letTemporaryGo x ov r
  pure r) _ _
 rw[hs.nb];exact K.seq (h K _ X w) λv n w=>Pt.d5 ((K.at n).tq (Pt.hold (Pt.attr w)) λr n2 w=>ae (wpAny_letTemporaryGo (Pt.pure w)))
def CQ{K:Pt}{Q:dm}{X:bA}{v:Value}(w:bp (er v) λa=>Got (fJ (K.H a)) λj=>dj (.app a) K.H Q):K.Wp (getAttr v (ofString "append") true) (Er Q) X:=
 isRef w λa w=>by
  cases w with
  |mk xs h w=>exact Pt.bound (eN h) w
def Kk(hs:CP x)(h:SE c o x):SE c (.bound o) (.Attribute x (ofString "append") p):=λK Q X w=>by
 show K.Wp (do
  let ov<-attributeBase x (ofString "append") K.env (eval x K.env)
  standAt p.atName
  let r<-holding [ov] (getAttr ov (ofString "append") true)
  letTemporaryGo x ov r
  pure r) _ _
 rw[hs.nb];exact K.seq (h K _ X w) λv n w=>Pt.d5 ((K.at n).tq (Pt.hold (CQ w)) λr n2 w=>ae (wpAny_letTemporaryGo (Pt.pure w)))
def W9(h0:isSlice y=false)(h:SE c o x)(hi:SE c i y):SE c (.idx o i) (.Subscript x y p):=λK Q X w=>by
 show K.Wp (do
  let ov<-eval x K.env
  let iv<-holding [ov] (eval y K.env)
  standAt p
  let r<-subscripted y (<-getitemInPython ov) ov iv
  letTemporaryGo x ov r
  pure r) _ _
 refine K.seq (h K _ X w) λv n w=>(K.at n).seq (Pt.hold (hi (K.at n) _ X w)) λu n2 w=>Pt.d5 ?_;refine ae (aJ (Pt.idx (K:=n2.p) (X:=X) h0 w) (λg s3 h3=>?_) λj j q=>q);refine ae (aJ h3 (λr s4 h4=>?_) λj j q=>q);exact ae (wpAny_letTemporaryGo (ax h4))
def SO(c:Sc)(m:E)(x:Option Expr):Prop:=∀(K:Kt c) Q X,K.wE m Q X->K.Wp (valueOrNone (evalOpt x K.env)) (Er Q) X
def Q5:SO c (.lit .none) none:=λK Q X w=>Pt.pure (K:=K.toPt) (Q:=Er Q) w
def Q6(h:SE c m x):SO c m (some x):=h
def Km{lo hi:Option Expr}{q:Pos}(h:SE c o x)(hl:SO c l lo)(hu:SO c u hi):SE c (.slice o l u) (.Subscript x (.Slice lo hi none q) p):=λK Q X w=>by
 show K.Wp (do
  let ov<-eval x K.env
  let iv<-holding [ov] (do
   let l<-valueOrNone (evalOpt lo K.env)
   let u<-holding [l] (valueOrNone (evalOpt hi K.env))
   let s<-holding [l,u] (valueOrNone (evalOpt none K.env))
   newFields "slice" [l,u,s])
  standAt p
  let r<-subscripted (.Slice lo hi none q) (<-getitemInPython ov) ov iv
  letTemporaryGo x ov r
  pure r) _ _
 refine K.seq (h K _ X w) λv n w=>ae (bF (ae ?_));refine(K.at n).mono (hl (K.at n) _ X w) (λa n2 w=>ae (bF ?_)) λj j q=>q;refine(K.at n|>.at n2).mono (hu (K.at n|>.at n2) _ X w) (λb n3 w=>ae (bF (ax ?_))) λj j q=>n2.exc q;refine aJ (Pt.slice (K:=n3.p) (X:=X) (l:=lo) (u:=hi) (p:=q) w) (λi s4 h4=>?_) λj j q=>n2.exc (n3.exc q);refine ae (fb (ae (aJ h4 (λg s5 h5=>?_) λj j q=>n2.exc (n3.exc q))));refine ae (aJ h5 (λr s6 h6=>?_) λj j q=>n2.exc (n3.exc q));exact ae (wpAny_letTemporaryGo (ax (n2.post (n3.post h6))))
end
section
variable{c:Sc}{m l r a b e o u es f:E}{x y z:Expr}{xs:List Expr}{p:Pos}
def noStar(h:∀env,(starEach xs env).all (λp=> !p.1)=true)(env:Env)(pos:Pos):(backTo pos (starEach xs env)).any (·.1)=false:=by
 show List.any (List.map _ _) _=false
 rw[List.any_map]
 show List.any (starEach xs env) (λp=>p.1)=false
 rw[<-Bool.not_not (List.any _ _),List.not_any_eq_all_not];exact ak (!·) (h env)
noncomputable def Nx.refl(K:Pt):Nx K:=⟨K.H,K.s,K.R,Ext.refl _ _ _⟩
noncomputable def Nx.trans{K:Pt}(n:Nx K)(n2:Nx n.p):Nx K:=⟨n2.H,n2.s,n2.R,n.x.trans n2.x⟩
inductive Arr(K:Pt)(f:Value)(first:ai)(P:ai->bA)(Q:dm)(X:bA):Prop
 |mk:(∀vs (n:Nx K),P (vs.map er) n.H->Keeps K.F.M n.s.heap f/\n.p.Wp (call f (first++vs)) (Er Q) X)->Arr K f first P Q X
def mE(hs:D9 c es xs){K:Kt c}{Q:dm}{X:bA}{P:ai->bA}(w:fP K.sp K.F.tb K.ρ es K.H P X){pos aby:Pos}{f:Value}{first:ai}(k:Arr K.toPt f first P Q X):
  K.Wp (callWith aby f first (backTo pos (starEach xs K.env)) []) (Er Q) X:=by
 cases k with
 |mk k=>
  have key:wpAny K.F.M K.A (spliced (backTo pos (starEach xs K.env))) (λvs s1=>Keeps K.F.M s1.heap f/\wpAny K.F.M K.A (call f (first++vs)) (K.fk (Er Q)) (K.Exc X) s1) (K.Exc X) K.s:=
   K.mono (hs.run K pos P X w) (λvs n w=>(k vs n w.2).imp_right λz=>aJ z (λj j=>n.post) λj j=>n.exc) λj j q=>q
  refine callWith_of (P:=λh=>Keeps K.F.M h f) ?_ (λj x=>x) ?_
  ·rw[noStar hs.star];rfl
  ·have st:=hs.star K.env;have nl:=hs.none K.env K.sp K.F.tb K.ρ K.H P X;generalize starEach xs K.env=l at key st nl
   cases l with
   |nil=>exact evalArgs_nil3 (k [] (.refl K.toPt) (nl rfl w))|cons a r=>
    obtain⟨b,t⟩:=a;rw[List.all_cons,dr]at st
    cases b with
    |true=>exact absurd st.1 c8|false=>exact evalArgs_plain key
def Q7(he:∀env,eval (.Call x xs [] p) env=(do callWith p (<-eval x env) [] (backTo p (starEach xs env)) []))(h:SE c f x)(hs:D9 c es xs):SE c (.call f es) (.Call x xs [] p):=λK Q X w=>by
 rw[he];exact K.seq (h K _ X w) λv n w=>mE hs (K:=K.at n) w ⟨λvs n2 w=>⟨Pt.keeps (K:=n2.p) w,Pt.J' (K:=n2.p) K.S w⟩⟩
def Jp(h:∀env,(starEach xs env).all (λp=> !p.1)=true)(l:xs.length<20)(env:Env)(p:Pos):methodCallForm (xs.length+0) (backTo p (starEach xs env)) []=true:=by
 unfold methodCallForm;have e1:(backTo p (starEach xs env)).all (λp=> !p.1)=true:=by
  unfold backTo;rw[List.all_map];exact h env
 rw[e1];exact aZ (Nat.lt_trans l aP)
def zd{K:Pt}{m:Me}{g:Addr}(own:(∃n,m=.own n)->K.F.tb.kind g=.fn):Keeps K.F.M K.s.heap (rL m g):=by
 cases m with
 |own n=>exact keeps_K (K.F.Wv g (own ⟨_,rfl⟩)).1 K.s.heap (K.F.X.keeps K.R.stays)|_=>exact mC (Looks.of_pure rfl)
def Q8{mn:Me}{ap:Pos}(hx:CP x)(hp:ap.endLine=p.line)(l:xs.length<20)(h:SE c o x)(hs:D9 c es xs):SE c (.jU o mn es) (.Call (.Attribute x mn.str ap) xs [] p):=λK Q X w=>by
 show K.Wp (do
  let ov<-attributeBase x mn.str K.env (eval x K.env)
  standAt ap.atName
  methodCall x mn.str ap p K.env ov (xs.length+0) (backTo p (starEach xs K.env)) []) _ _
 rw[hx.nb];refine K.seq (h K _ X w) λv n w=>Pt.d5 ?_;unfold methodCall;rw[Jp hs.star l];have Q9:methodCallPos true x K.env ap p=pure p:=by
  unfold methodCallPos;rw[hp,cW];rfl
 cases Pt.recv (K:=n.p) w with
 |mk g kf gm own=>
  refine ae (bF (gm _ _ _ ?_))
  dsimp only
  exact Q9▸ae (ax (mE hs (K:=K.at n) kf ⟨λvs n2 w=>⟨zd (K:=n2.p) own,Pt.jU (K:=n2.p) K.S own w⟩⟩))
def E7{op:CmpOp}{K:Pt}{v u:Value}{P:Bool->Prop}{Q:dm}{X:bA}(w:Got (qR K.H op (er v) (er u)) P)(k:∀b,P b->Q (.bool b) K.H):K.Wp (compareOp op v u) (Er Q) X:=by
 cases w with
 |mk b e w=>exact Pt.cmp e (k b w)
def Ra{op:CmpOp}(h:SE c e x):SC c (.jz op e .nil) [op] [x]:=⟨λK pos v Q X w=>by
 show K.Wp (do let rv<-holding [v] (eval x K.env);standAt pos;operate [v,rv] (compareOp op v rv)) _ _
 exact K.seq (Pt.hold (h K _ X w)) λu n w=>Pt.d5 (Pt.QB (E7 (K:=n.p) w λb w=>w)),λK pos v P X w=>by
 show K.Wp (do let rv<-holding [v] (eval x K.env);standAt pos;let c<-operate [v,rv] (compareOp op v rv);holding [c] (truthy c)) _ _
 refine K.seq (Pt.hold (h K _ X w)) λu n w=>Pt.d5 ((K.at n).seq (P:=Tb P) (Pt.QB (E7 (K:=n.p) w λb w=>w)) λr n2 w=>?_);exact isBool (C:=λr=>(n2.p).Wp (holding [r] (truthy r)) P X) w λb w=>bF (wpAny_truthy_bool (n2.p.here w))⟩
def k_one{op:CmpOp}{K:Kt c}{v:Value}{β:Type}{Q:β->bA}{X:bA}{A B:dm}{f:Value->Value->Bool->Sem β}{pos:Pos}(h:SE c e x)(w:K.wE e (λw h'=>Got (qR h' op (er v) w) λb=>mO b (A w h') (B w h')) X)
  (ka:∀u (n:Nx K.toPt),A (er u) n.H->(K.at n).Wp (f u (.bool true) true) Q X) (kb:∀u (n:Nx K.toPt),B (er u) n.H->(K.at n).Wp (f u (.bool false) false) Q X):
  K.Wp (do let rv<-holding [v] (eval x K.env);standAt pos;let c<-holding [v,rv] (compareOp op v rv);release [v,rv] [c];let t<-holding [c,rv] (truthy c);f rv c t) Q X:=by
 refine K.seq (Pt.hold (h K _ X w)) λu n w=>Pt.d5 ((K.at n).seq (P:=Tb λb h=>mO b (A (er u) h) (B (er u) h)) (Pt.hold (E7 (K:=n.p) w λb w=>w)) λr n2 w=>ae (wpAny_release ?_));refine isBool (C:=λr=>n2.p.Wp (do let t<-holding [r,u] (truthy r);f u r t) Q X) w λb w=>ae (bF (wpAny_truthy_bool ?_))
 cases b with
 |true=>exact ka u (n.trans n2) w|false=>exact kb u (n.trans n2) w
def wO{sp:Spec}{tb:Tab}{ρ:aS}{op:CmpOp}{v:Value}{H:Hp}{Q:dm}{X:bA}(nn:r.isNil=false)(w:Jz sp tb ρ (.jz op e r) v H Q X):eB sp tb ρ e H (λw h'=>Got (qR h' op v w) λb=>mO b (Jz sp tb ρ r w h' Q X) (Q (.bool false) h')) X:=by
 have w':eB sp tb ρ e H (λw h'=>Got (qR h' op v w) λb=>mO r.isNil (Q (.bool b) h') (mO b (Jz sp tb ρ r w h' Q X) (Q (.bool false) h'))) X:=w;rw[nn]at w';exact w'
def Rb{op:CmpOp}{j3:List CmpOp}(h:SE c e x)(hr:SC c r j3 (y::xs))(nn:r.isNil=false)(no:j3≠[]):SC c (.jz op e r) (op::j3) (x::y::xs):=by
 obtain⟨o',j3,rfl⟩:=List.exists_cons_of_ne_nil no;exact⟨λK pos v Q X w=>by
  show K.Wp (do
    let rv<-holding [v] (eval x K.env)
    standAt pos
    let c<-holding [v,rv] (compareOp op v rv)
    release [v,rv] [c]
    if<-holding [c,rv] (truthy c)then compareChain pos rv (o'::j3) (evalEach (y::xs) K.env)else pure c) _ _
  exact k_one (f:=λu r t=>if t=true then compareChain pos u (o'::j3) (evalEach (y::xs) K.env)else pure r) h (wO nn w) (λu n w=>hr.e (K.at n) pos u Q X w) λu n w=>Pt.pure w,λK pos v P X w=>by
  show K.Wp (do
    let rv<-holding [v] (eval x K.env)
    standAt pos
    let c<-holding [v,rv] (compareOp op v rv)
    release [v,rv] [c]
    if<-holding [c,rv] (truthy c)then testChain pos rv (o'::j3) (evalEach (y::xs) K.env)else pure false) _ _
  exact k_one (f:=λu r t=>if t=true then testChain pos u (o'::j3) (evalEach (y::xs) K.env)else pure false) h (wO nn w) (λu n w=>hr.t (K.at n) pos u P X w) λu n w=>Pt.pure w⟩
def nv:∀(j3:List CmpOp)(xs:List Expr)(ts:List (Sem Value)),lastMarks j3 xs=false->markedEach j3 xs ts=ts:=markedEach_of_false
def Xa{j3:List CmpOp}(h:SE c l x)(hr:SC c r j3 xs)(hm:lastMarks j3 xs=false):SE c (.cmp l r) (.Compare x j3 xs p):=λK Q X w=>by
 show K.Wp (do compareChain p (<-eval x K.env) j3 (markedEach j3 xs (evalEach xs K.env))) _ _
 rw[nv _ _ _ hm];exact K.seq (h K _ X w) λv n w=>hr.e (K.at n) p v Q X w
def Xb{j3:List CmpOp}(h:SE c l x)(hr:SC c r j3 xs)(hm:lastMarks j3 xs=false):ST c (.cmp l r) (.Compare x j3 xs p):=λK P X w=>by
 show K.Wp (do testChain p (<-eval x K.env) j3 (markedEach j3 xs (evalEach xs K.env))) _ _
 rw[nv _ _ _ hm];exact K.seq (h K _ X w) λv n w=>hr.t (K.at n) p v P X w
end
def cD(o:Obj):Prop:=∀vs,o.data≠.fields vs
structure e8(Ls FA:bJ)(H:Hp)(h:Heap)(H':Hp)(h':Heap):Prop where
 rest:∀a o,h.get? a=some o->a∉Ls->Still H a->Kept FA h' a o
 loc:∀a∈Ls,∀o,h.get? a=some o->∃o',h'.get? a=some o'/\(cD o->cD o')
 same:∀a m,H a=some m->m.mut=false->H' a=some m
 ym:∀a,H a≠none->H' a≠none
 fresh:∀a,H' a≠none->H a≠none\/h.get? a=none
section
variable{Ls FA:bJ}{H H' JI:Hp}{h0 h h' iV:Heap}{a:Addr}{F:Fix}{A:Around}{fr:List Env}{env:Env}{c:Sc}
def Kept.nf{o:Obj}(x:Kept FA h' a o):∃o',h'.get? a=some o'/\(cD o->cD o'):=x.elim λsl e j=>⟨_,e,id⟩
def Ext.toL(x:Ext FA H h H' h')(Ls:bJ)(hL:∀a∈Ls,H a=none):e8 Ls FA H h H' h':=
 ⟨λa o e j q=>x.rest a o e q,λa ha o e=>(x.rest a o e (d4 (hL a ha))).nf,x.same,x.ym,x.fresh⟩
def e8.refl(Ls FA:bJ)(H:Hp)(h:Heap):e8 Ls FA H h H h:=
 ⟨λa o e j j=>.of e,λa j o e=>⟨o,e,id⟩,λj j e j=>e,λj e=>e,λj e=>.inl e⟩
def e8.back(x:e8 Ls FA H h H' h')(n:h'.get? a=none):H a≠none\/h.get? a=none:=
 (or_none λm e=>jC e).symm.imp_right λz=>is_none λo e=>by
  by_cases hm:a∈Ls
  ·exact(x.loc a hm o e).elim λj p=>aI n p.1
  ·exact(x.rest a o e hm (d4 z)).elim λj p j=>aI n p
def e8.ED{ob:Obj}(x:e8 Ls FA H h H' h')(e:h.get? a=some ob)(q:Still H a):Still H' a:=λm hm=>
 (x.fresh a (jC hm)).elim (λz=>(or_none λm' e'=>by
  have:=x.same a m' e' (q m' e');rw[hm]at this;rw[ar this];exact q m' e').elim (λn=>absurd n z) id) λz=>aI z e
def e8.trans(x:e8 Ls FA H h H' h')(y:e8 Ls FA H' h' JI iV):e8 Ls FA H h JI iV:=
 ⟨λa o e n q=>(x.rest a o e n q).elim λsl e1 q1=>(y.rest a _ e1 n (x.ED e q)).elim λOX e2 q2=>⟨OX,e2,λn=>(q2 n).trans (q1 n)⟩,
  λa ha o e=>(x.loc a ha o e).elim λo' p=>(y.loc a ha o' p.1).imp λo2 p2=>⟨p2.1,λq=>p2.2 (p.2 q)⟩,
  λa m e q=>y.same a m (x.same a m e q) q,λa e=>y.ym a (x.ym a e),λa e=>(y.fresh a e).elim (x.fresh a) x.back⟩
def e8.out(x:Ext FA H h0 H h)(y:e8 Ls FA H h H' h')(n:∀a∈Ls,h0.get? a=none):Ext FA H h0 H' h':=
 ⟨λa o e q=>(x.rest a o e q).elim λsl e1 q1=>(y.rest a _ e1 (λhm=>aI (n a hm) e) q).elim λOX e2 q2=>⟨OX,e2,λn=>(q2 n).trans (q1 n)⟩,
  λa m e q=>y.same a m e q,λa e=>y.ym a e,λa e=>(y.fresh a e).elim .inl x.back⟩
def e8.off(x:e8 Ls FA H h H' h')(n:H a=none){ob:Obj}(l:h.get? a=some ob):H' a=none:=
 is_none λj e=>(x.fresh a (jC e)).elim (λz=>z n) λz=>aI z l
def e8.nf(x:e8 Ls FA H h H' h')(n:H a=none){o:Obj}(e:h.get? a=some o):∃o',h'.get? a=some o'/\(cD o->cD o'):=by
 by_cases hm:a∈Ls
 ·exact x.loc a hm o e
 ·exact(x.rest a o e hm (d4 n)).nf
def Frs.vg(f:Frs F A fr H h)(x:e8 Ls (nL fr) H h H' h'):Frs F A fr H' h':=
 ⟨f.stack,jD (λL m o e d=>(x.nf (f.off L m) e).imp λo' y=>⟨y.1,y.2 d⟩) f.ow,λL hL=>(f.ow.mem hL).2.elim λo y=>x.off (f.off L hL) y.1,f.handled⟩
def nP{P base os}{s':Shared}(R:Rel P base os H' s')(x:e8 Ls FA H h H' s'.heap)(n:s'.heap.get? a=none):h.get? a=none:=
 (x.back n).elim (λz=>absurd (R.fresh n) (x.ym a z)) id
def e8.ns(x:e8 Ls FA H h H' h'){m:Str->bq}(e:h.Ns a m)(n:H a=none)(l:a∉Ls):h'.Ns a m:=by
 obtain⟨o,es,ep,e1,e2,e3⟩:=e;exact(x.rest a o e1 l (d4 n)).elim λsl e j=>⟨_,es,ep,e,e2,e3⟩
noncomputable def own(env:Env):bJ:=env.locals::env.cells.map (·.2)
def oH{x:Str}{a:Addr}(e:env.cells.lookup x=some a):a∈own env:=.tail _ (jb ⟨_,mem_lookup e,rfl⟩)
def tX(env:Env)(H:Hp)(h:Heap):Prop:=∀a∈own env,H a=none/\∃o,h.get? a=some o/\cD o
def tX.ext(q:tX env H h)(x:e8 Ls FA H h H' h'):tX env H' h':=λa ha=>(q a ha).2.elim λo z=>⟨x.off (q a ha).1 z.1,(x.nf (q a ha).1 z.1).imp λo' y=>⟨y.1,y.2 z.2⟩⟩
structure Kp(c:Sc)(env:Env):Prop where
 inj:∀x y i,c.im.lookup x=some i->c.im.lookup y=some i->x=y
 cells:(env.cells.map (·.2)).Nodup
 apart:env.locals∉env.cells.map (·.2)
 adx:(env.cells.map (·.1)).Nodup
end
inductive Fix.O1(F:Fix){α:Type}(env:Env)(fr:List Env)(c:Sc)(H:Hp)(h:Heap)(Q:α->qC)(v:α)(s':Shared):Prop
 |mk (ρ' H'):Q v ρ' H'->F.R H' s'->e8 (own env) (nL fr) H h H' s'.heap->lF F env fr c ρ' H' s'.heap->Fix.O1 F env fr c H h Q v s'
inductive Fix.XB(F:Fix)(env:Env)(fr:List Env)(c:Sc)(H:Hp)(h:Heap)(X:bA)(e:Value)(s':Shared):Prop
 |mk (ρ' H'):X H'->F.R H' s'->e8 (own env) (nL fr) H h H' s'.heap->uX fr h H' e s'.heap->lF F env fr c ρ' H' s'.heap->Fix.XB F env fr c H h X e s'
structure Kb(c:Sc) extends Kt c where
 ho:tX env H s.heap
 so:Kp c env
structure Nb{c:Sc}(K:Kb c)where
 ρ:aS
 H:Hp
 s:Shared
 R:K.F.R H s
 x:e8 (own K.env) (nL K.fr) K.H K.s.heap H s.heap
 hb:lF K.F K.env K.fr c ρ H s.heap
@[reducible] def Kb.at{c:Sc}(K:Kb c)(n:Nb K):Kb c:={K with H:=n.H,s:=n.s,R:=n.R,hf:=K.hf.vg n.x,ρ:=n.ρ,hb:=n.hb,ho:=K.ho.ext n.x}
abbrev Kb.fk{c:Sc}(K:Kb c){α:Type}(Q:α->qC):α->bW:=K.F.O1 K.env K.fr c K.H K.s.heap Q
abbrev Kb.Exc{c:Sc}(K:Kb c)(X:bA):Value->bW:=K.F.XB K.env K.fr c K.H K.s.heap X
def Kb.W{c:Sc}(K:Kb c){α:Type}(t:Sem α)(Q:α->qC)(X:bA):Prop:=wpAny K.F.M K.A t (K.fk Q) (K.Exc X) K.s
section
variable{c:Sc}{K:Kb c}{α β:Type}{Q:β->qC}{X:bA}{t:Sem α}
def Kb.xl(K:Kb c)(n:Nx K.toPt):e8 (own K.env) (nL K.fr) K.H K.s.heap n.H n.s.heap:=n.x.toL _ λa ha=>(K.ho a ha).1
@[reducible] def Kb.ne(K:Kb c)(n:Nx K.toPt):Nb K:=⟨K.ρ,n.H,n.s,n.R,K.xl n,K.hb.ext n.x⟩
def Nb.post{n:Nb K}{v:β}{s':Shared}(p:(K.at n).fk Q v s'):K.fk Q v s':=by
 cases p with
 |mk ρ' H' q R x b=>exact⟨ρ',H',q,R,n.x.trans x,b⟩
def Nb.exc{n:Nb K}{e:Value}{s':Shared}(p:(K.at n).Exc X e s'):K.Exc X e s':=by
 cases p with
 |mk ρ' H' q R x i b=>exact⟨ρ',H',q,R,n.x.trans x,i.back λj=>nP n.R n.x,b⟩
def Kb.E8{e:Value}{s':Shared}(p:K.toPt.Exc X e s'):K.Exc X e s':=by
 cases p with
 |mk H' q R x i=>exact⟨K.ρ,H',q,R,x.toL _ λa ha=>(K.ho a ha).1,i,K.hb.ext x⟩
def Kb.here{v:β}(q:Q v K.ρ K.H):K.fk Q v K.s:=⟨K.ρ,K.H,q,K.R,e8.refl _ _ _ _,K.hb⟩
def Kb.pure{v:β}(q:Q v K.ρ K.H):K.W (pure v) Q X:=ax (K.here q)
def Kb.d5{p:Pos}{f:Unit->Sem α}{Q:α->qC}(h:K.W (f ()) Q X):K.W (standAt p>>=f) Q X:=ae (fb h)
def Kb.mono{P:α->qC}{Q:α->bW}{E:gp}(h:K.W t P X)(k:∀v (n:Nb K),P v n.ρ n.H->Q v n.s)(e:∀v s,K.Exc X v s->E v s):wpAny K.F.M K.A t Q E K.s:=
 aJ h (λv s1 p=>by
  cases p with
  |mk ρ' H' q R x b=>exact k v ⟨ρ',H',s1,R,x,b⟩ q) e
def Kb.monoE{P:α->bA}{Q:α->bW}{E:gp}(h:K.toPt.Wp t P X)(k:∀v (n:Nx K.toPt),P v n.H->Q v n.s)(e:∀v s,K.Exc X v s->E v s):wpAny K.F.M K.A t Q E K.s:=
 K.toPt.mono h k λv s p=>e v s (K.E8 p)
def Kb.seq{f:α->Sem β}{P:α->qC}(h:K.W t P X)(k:∀v (n:Nb K),P v n.ρ n.H->(K.at n).W (f v) Q X):K.W (t>>=f) Q X:=
 ae (K.mono h (λv n p=>aJ (k v n p) (λj j=>n.post) λj j=>n.exc) λj j=>id)
def Kb.nQ{f:α->Sem β}{P:α->bA}(h:K.toPt.Wp t P X)(k:∀v (n:Nx K.toPt),P v n.H->(K.at (K.ne n)).W (f v) Q X):K.W (t>>=f) Q X:=
 ae (K.monoE h (λv n p=>aJ (k v n p) (λj j=>(K.ne n).post) λj j=>(K.ne n).exc) λj j=>id)
end
def Fw(Q:lM)(f:Flow)(ρ:aS)(h:Hp):Prop:=match f with
 |.next=>Q (.next ρ) h
 |.ret v=>Q (.ret (er v)) h|_=>False
def SS(c:Sc)(m:S)(st:Stmt):Prop:=∀(K:Kb c),1<=K.N->∀Q X,wpS K.sp K.F.tb m K.ρ K.H Q X->K.W (exec st K.env) (Fw Q) X
def wQ(c:Sc)(m:S)(rN:List Stmt):Prop:=∀(K:Kb c),1<=K.N->∀Q X,bH K.sp K.F.tb m K.ρ K.H Q X->K.W (execs rN K.env) (Fw Q) X
section
variable{c:Sc}{m:E}{a b:S}{x:Expr}{st:Stmt}{l r rN:List Stmt}{p:Pos}
def Rc:wQ c .nil []:=λK lo Q X w=>wpAny_execs_nil (K.here w)
def Ku(ha:SS c a st)(hb:wQ c b rN):wQ c (.cons a b) (st::rN):=λK lo Q X w=>wpAny_execs_cons (K.mono (ha K lo _ X w) (λf n w=>by
  cases f with
  |next=>exact aJ (hb (K.at n) lo Q X w) (λj j=>n.post) λj j=>n.exc
  |ret v=>exact n.post ((K.at n).here w)|_=>exact w.elim) λj j=>id)
def lF.tY{F:Fix}{env:Env}{fr c ρ H h}(hb:lF F env fr c ρ H h):interactive env=false:=by unfold interactive;rw[hb.kind];rfl
def Kv(hs:∀t l env,swapsWith x t l env=pure false)(h:SE c m x):SS c (.expr m) (.Expr x p):=λK lo Q X w=>by
 rw[exec_Expr K.env x p K.hb.tY (hs _ _ _)];exact Kb.d5 (K.nQ (h K.toKt _ X w) λv n w=>wpAny_dropValue ((K.at (K.ne n)).here w))
def Rd(h:SE c m x):SS c (.ret m) (.Return (some x) p):=λK lo Q X w=>wpAny_Return_some (K.monoE (h K.toKt _ X w) (λv n w=>(K.ne n).post (Kb.here (K:=K.at (K.ne n)) (Q:=Fw Q) (v:=.ret v) w)) λj j=>id)
def Kw:SS c (.ret (.lit .none)) (.Return none p):=λK lo Q X w=>wpAny_Return_none (Kb.here (K:=K) (Q:=Fw Q) (v:=.ret .none) w)
def Xc(h:ST c m x)(ha:wQ c a l)(hb:wQ c b r):SS c (.D7 m a b) (.If x l r p):=λK lo Q X w=>by
 show K.W (do standAt p;if<-isTrue x K.env (eval x K.env)then execs l K.env else execs r K.env) _ _
 refine Kb.d5 (K.nQ (h K.toKt _ X w) λt n w=>?_)
 cases t with
 |true=>exact ha (K.at (K.ne n)) lo Q X w|false=>exact hb (K.at (K.ne n)) lo Q X w
end
def oI{ρ:aS}{i j:Nat}{v w:Value}(h:(ρ.set i (some v))[j]? =some (some w)):(i=j/\w=v)\/(i≠j/\ρ[j]? =some (some w)):=by
 by_cases e:i=j
 ·subst e;rw[List.getElem?_set_self']at h
  cases q:ρ[i]? with
  |none=>rw[q]at h;exact eA h|some u=>rw[q]at h;cases h;exact .inl ⟨rfl,rfl⟩
 ·rw[hR e]at h;exact .inr ⟨e,h⟩
def tZ{α β:Type}{l:List (α×β)}(n:(l.map (·.2)).Nodup){x y:α}{v:β}(h1:(x,v)∈l)(h2:(y,v)∈l):x=y:=by
 induction l with
 |nil=>cases h1|cons p r ih=>
  rw[List.map_cons,List.nodup_cons]at n;rcases fY h1 with e1|e1<;>rcases fY h2 with e2|e2
  ·rw[<-e1]at e2;exact(ak Prod.fst e2).symm
  ·exact absurd (jb ⟨_,e2,rfl⟩) (by rw[<-e1]at n;exact n.1)
  ·exact absurd (jb ⟨_,e1,rfl⟩) (by rw[<-e2]at n;exact n.1)
  ·exact ih n.2 e1 e2
def storeName_free{M:Model}{A:Around}{E:gp}{s:Shared}{env:Env}{name:Str}{c:Addr}{v₀:bq}{v:Value}{Q:Jo}(hk:env.scope.kind=.function)(hl:env.kindOf name=some .free)
  (hc:env.cells.lookup name=some c) (hv:s.heap.IsCell c v₀)
  (h:∀h',h'.IsCell c (some v)->Heap.SameBut c s.heap h'->Q () {s with heap:=h'}):wpAny M A (storeName env name v) Q E s:=by
 unfold storeName;simp only[hl,hk];exact ae (wpAny_cellOf hc (wpAny_cellSet hv h))
section
variable{F:Fix}{env:Env}{fr:List Env}{c:Sc}{ρ:aS}{H:Hp}{h h':Heap}{x:Str}{i:Nat}{v:Value}{FA:bJ}
def A9(b:wG env c ρ h){a:Addr}{u:bq}(e:h.IsCell a u):a≠env.locals:=λz=>by
 cases b with
 |mk m n _=>
  obtain⟨o,es,ep,z1,z2,_⟩:=n;obtain⟨o',z3,z4⟩:=e;rw[z,z1]at z3;obtain rfl:=ar z3;rw[z2]at z4;cases z4
def wG.set(b:wG env c ρ h)(inj:∀x y i,c.im.lookup x=some i->c.im.lookup y=some i->x=y)(hi:c.im.lookup x=some i){m:Str->bq}(hm:∀y,y≠x->∀j u,c.im.lookup y=some j->c.names.lookup y=some .local->ρ[j]? =some (some u)->∃v',m y=some v'/\er v'=u)(hx:m x=some v)(hn:h'.Ns env.locals m):
  wG env c (ρ.set i (some (er v))) h':=
 ⟨m,hn,λy j u hy hl hu=>(oI hu).elim (λz=>by cases z.1;cases inj x y i hi hy;exact⟨v,hx,z.2.symm⟩) λz=>hm y (λe=>z.1 (by cases e;rw[hi]at hy;exact ar hy)) j u hy hl z.2⟩
def lQ.set{y:Str}{j:Nat}(b:lQ F env ρ H h y j)(ij:i≠j)(k:∀a v',env.cells.lookup y=some a->h.IsCell a v'->h'.IsCell a v'):lQ F env (ρ.set i (some (er v))) H h' y j:=by
 cases b with
 |mk a v' e n q z w=>exact⟨a,v',e,n,q,k a v' e z,λu hu=>(oI hu).elim (λz=>absurd z.1 ij) λz=>w u z.2⟩
def lF.rO(b:lF F env fr c ρ H h)(inj:∀x y i,c.im.lookup x=some i->c.im.lookup y=some i->x=y)(hi:c.im.lookup x=some i)(hk:c.names.lookup x=some .local)(hn:wG env c (ρ.set i (some (er v))) h')(hs:Heap.SameBut env.locals h h'):
  lF F env fr c (ρ.set i (some (er v))) H h':=
 ⟨b.frame,b.kind,b.knd,b.glob,b.blt,b.off,b.new,hn,λy j hy hl=>(b.cells y j hy hl).set (λz=>by subst z;cases inj x y i hi hy;rw[hk]at hl;exact hl.elim nofun nofun) λa v' J z=>z.sameBut hs (A9 b.ns z)⟩
def lF.setC(b:lF F env fr c ρ H h)(so:Kp c env)(hi:c.im.lookup x=some i)(hk:c.names.lookup x=some .cell){a:Addr}{u:bq}(ha:env.cells.lookup x=some a)(na:H a=none)(nb:F.base.get? a=none)(hu:h.IsCell a u)(hv:h'.IsCell a (some v))(hs:Heap.SameBut a h h'):
  lF F env fr c (ρ.set i (some (er v))) H h':=by
 refine⟨b.frame,b.kind,b.knd,b.glob,b.blt,b.off,b.new,?_,λy j hy hl=>?_⟩
 ·have ne:=b8 (A9 b.ns hu)
  cases b.ns with
  |mk m n k=>exact⟨m,n.sameBut hs ne,λy j u hy hl hu=>(oI hu).elim (λz=>by cases z.1;cases so.inj x y i hi hy;rw[hk]at hl;cases hl) λz=>k y j u hy hl z.2⟩
 ·by_cases ij:i=j
  ·subst ij;cases so.inj x y i hi hy;exact⟨a,some v,ha,na,nb,hv,λu hu=>(oI hu).elim (λz=>⟨v,rfl,z.2.symm⟩) λz=>absurd rfl z.1⟩
  ·exact(b.cells y j hy hl).set ij λa' v' e z=>z.sameBut hs λq=>by
    subst q;cases tZ so.cells (mem_lookup e) (mem_lookup ha);rw[hi]at hy;exact ij (ar hy)
def e8.one{Ls:bJ}{a:Addr}(ha:a∈Ls)(hs:Heap.SameBut a h h')(l:∃o,h'.get? a=some o/\cD o):e8 Ls FA H h H h':=
 ⟨λb o e n j=>.of ((hs.2 b λz=>n (by rw[z];exact ha)).trans e),λb hb o e=>by
  by_cases z:b=a
  ·subst z;exact l.imp λo' q=>⟨q.1,λj=>q.2⟩
  ·exact⟨o,(hs.2 b z).trans e,id⟩,λj j e j=>e,λj e=>e,λj e=>.inl e⟩
def O2{a:Addr}{m:Str->bq}(n:h.Ns a m):∃o,h.get? a=some o/\cD o:=by
 obtain⟨o,es,ep,e1,e2,_⟩:=n;exact⟨o,e1,λvs q=>by rw[e2]at q;cases q⟩
def Ky{a:Addr}{v:bq}(n:h.IsCell a v):∃o,h.get? a=some o/\cD o:=by
 obtain⟨o,e1,e2⟩:=n;exact⟨o,e1,λvs q=>by rw[e2]at q;cases q⟩
end
inductive tu{c:Sc}(K:Kt c)(ρ':aS)(s':Shared):Prop
 |mk:K.F.R K.H s'->(∀a o,K.s.heap.get? a=some o->a≠K.env.locals->s'.heap.get? a=some o)->lF K.F K.env K.fr c ρ' K.H s'.heap->tu K ρ' s'
def Sc.inj(c:Sc):Prop:=∀x y i,c.im.lookup x=some i->c.im.lookup y=some i->x=y
section
variable{c:Sc}{K:Kt c}{ρ' Xd:aS}{s' VU:Shared}{x:Str}{i:Nat}{v:Value}{Ex:gp}
def wG.nf{env:Env}{ρ:aS}{h:Heap}(b:wG env c ρ h):∃o,h.get? env.locals=some o/\cD o:=by
 cases b with
 |mk m n _=>exact O2 n
def tu.xl(t:tu K ρ' s'){Ls:bJ}(m:K.env.locals∈Ls)(k:∀a∈Ls,∀o,K.s.heap.get? a=some o->∃o',s'.heap.get? a=some o'/\(cD o->cD o')):e8 Ls (nL K.fr) K.H K.s.heap K.H s'.heap:=by
 cases t with
 |mk R q b=>exact⟨λa o e n j=>.of (q a o e λz=>n (by rw[z];exact m)),k,λj j e j=>e,λj e=>e,λj e=>.inl e⟩
def tu.l(t:tu K ρ' s'):∀a∈[K.env.locals],∀o,K.s.heap.get? a=some o->∃o',s'.heap.get? a=some o'/\(cD o->cD o'):=λa m o e=>by
 cases cI m
 cases t with
 |mk R q b=>exact b.ns.nf.imp λo' z=>⟨z.1,λj=>z.2⟩
def tu.R(t:tu K ρ' s'):K.F.R K.H s':=by cases t with|mk R q b=>exact R
def tu.b(t:tu K ρ' s'):lF K.F K.env K.fr c ρ' K.H s'.heap:=by cases t with|mk R q b=>exact b
def tu.q(t:tu K ρ' s'):∀a o,K.s.heap.get? a=some o->a≠K.env.locals->s'.heap.get? a=some o:=by cases t with|mk R q b=>exact q
@[reducible] def Kt.sto(K:Kt c){ρ':aS}{s':Shared}(t:tu K ρ' s'):Kt c:={K with s:=s',R:=t.R,hf:=K.hf.vg (t.xl (.head _) t.l),ρ:=ρ',hb:=t.b}
def tu.trans(t:tu K ρ' s')(u:tu (K.sto t) Xd VU):tu K Xd VU:=⟨u.R,λa o e n=>u.q a o (t.q a o e n) n,u.b⟩
def vh(inj:c.inj)(hk:c.names.lookup x=some .local)(hi:c.im.lookup x=some i):wpAny K.F.M K.A (bindName K.env x v) (λJ s'=>tu K (K.ρ.set i (some (er v))) s') Ex K.s:=by
 obtain⟨m,hn,hm⟩:=K.hb.ns;refine wpAny_bindName (wpAny_storeName_local ((K.hb.knd x _ hk).1 rfl) hn (λh' O3 hs=>?_) (by rw[K.hb.kind];rfl));exact⟨K.R.other _ K.hb.off K.hb.new hs,λa o e n=>(hs.2 a n).trans e,K.hb.rO inj hi hk (K.hb.ns.set inj hi (λy ne j u hy hl hu=>(hm y j u hy hl hu).imp λv' q=>⟨(aB ne).trans q.1,q.2⟩) (av rfl) O3) hs⟩
end
section
variable{c:Sc}{K:Kb c}{X:bA}{x:Str}{i:Nat}{v:Value}{Q:Unit->qC}
def Kb.stored{α:Type}{Q:α->qC}{u:α}{ρ':aS}{s':Shared}(t:tu K.toKt ρ' s')(w:Q u ρ' K.H):K.fk Q u s':=⟨ρ',K.H,w,t.R,t.xl (.head _) (λa m o e=>by
  by_cases z:a=K.env.locals
  ·exact t.l a (List.mem_singleton.mpr z) o e
  ·exact⟨o,t.q a o e z,id⟩),t.b⟩
def Ba(h1:storeOk c x=true)(hi:c.im.lookup x=some i)(w:Q () (K.ρ.set i (some (er v))) K.H):K.W (bindName K.env x v) Q X:=by
 unfold storeOk at h1;rw[dr,gg]at h1;rcases h1.2 with hk|hk
 ·exact aJ (vh (K:=K.toKt) K.so.inj (eq_of_beq hk) hi) (λj s' t=>Kb.stored t w) λj j=>id
 ·have hk:=eq_of_beq hk;obtain⟨a,v',e1,e2,e0,e3,_⟩:=K.hb.cells x i hi (.inl hk);have main:∀h',h'.IsCell a (some v)->Heap.SameBut a K.s.heap h'->K.fk Q () {K.s with heap:=h'}:=λh' hv hs=>⟨_,K.H,w,K.R.other _ e2 e0 hs,.one (oH e1) hs (Ky hv),K.hb.setC K.so hi hk e1 e2 e0 e3 hv hs⟩
  rcases(K.hb.knd x _ hk).2.2 (.inl rfl)with q|q
  ·exact wpAny_bindName (wpAny_storeName_cell K.hb.kind q e1 e3 main)
  ·exact wpAny_bindName (storeName_free K.hb.kind q e1 e3 main)
end
section
variable{prog:Program}{w:World}{A:Around}{E:gp}{s:Shared}
theorem ua{it t:Addr}{items:Array Value}(yn:t≠it):∀(n i:Nat)(s:Shared)(Q:ai->bW),s.heap.IsListIter it t i->s.heap.IsList t items->i+n<=items.size->
  (∀h',h'.IsListIter it t (i+n)->Heap.SameBut it s.heap h'->Q ((items.toList.drop i).take n) {s with heap:=h'})->wpAny (model prog w) A (draw (.ref it) n) Q E s
 |0,i,s,Q,WR,_,_,hQ=>by
  show wpAny _ _ (pure []) Q E s
  exact ax (by simpa using hQ s.heap WR (Heap.SameBut.refl ..))
 |n+1,i,s,Q,WR,ht,hle,hQ=>by
  have mP:i<items.size:=by lia
  show wpAny _ _ (pyNext (.ref it)>>=_) Q E s
  refine ae (wpAny_pyNext_list_item WR ht (x:=items[i]) (by simp[mP]) λh₁ ze ly=>?_);refine ae (bF (ua yn n (i+1) _ _ ze (ht.extBut ly.extBut yn) (by lia) λh₂ Rf Xe=>ax ?_));have hd:items.toList.drop i=items[i]::items.toList.drop (i+1):=by simp[List.drop_eq_getElem_cons,mP]
  have:=hQ h₂ (by rw[show i+(n+1)=i+1+n by lia];exact Rf) (ly.trans Xe);rw[hd,List.take_succ_cons]at this;exact this
def tx{l:Addr}{items:Array Value}{k:Int}{t:Tok}{v:Value}{Q:Jo}(hp:s.heap.PlainList l items)
  (h0:0<=k) (Kg:k<2^63) (hn:k<items.size)
  (hQ:∀h',h'.PlainList l (items.setIfInBounds k.toNat v)->Heap.SameBut l s.heap h'->Q () {s with heap:=h'}):
  wpAny (model prog w) A (setItem (.ref l) (.int k t) v) Q E s:=by
 have hl:=hp.isList;obtain⟨n,ho⟩:=hp;unfold setItem
 try with_reducible refine bF ?_
 first|refine ae (ax ?_)|skip
 refine ae (wpAny_sequenceKey hl.typeIs aP ?_);refine ae (wpAny_callSpecial?_slot (name:=ofString "__setitem__") hl.typeIs slot_list_setitem
  (wpAny_call_entry slot_list_setitem hl.typeIs entry_list_setitem ?_ (args_list_setitem _ _ _)))
 show wpAny _ _ (Builtin.List.listSubscript? (.int k t)>>=_) _ _ s
 refine ae (wpAny_listSubscript_int (fitsIndex_of h0 Kg) ?_);clear Kg;obtain⟨j,rfl⟩:=Int.eq_ofNat_of_zero_le h0;have hj:j<items.size:=by lia
 have VV:items[j]? =some items[j]:=Array.getElem?_eq_getElem hj
 show wpAny _ _ ((seqItemAt l j>>=λr=>pure (r.map (j,·)))>>=_) _ _ s
 refine ae (ae (wpAny_seqItemAt ho rfl (ax ?_)));rw[VV]
 show wpAny _ _ (setSeqItemAt l j v>>=_) _ _ s
 have Xf:(s.heap.update l (Obj.mapSeq (·.setIfInBounds j v))).PlainList l (items.setIfInBounds j v):=⟨_,IsL.update (n:=n) ho _⟩
 refine ae (wpAny_setSeqItemAt ho rfl ?_)
 first
  |exact ae (ax (ax ⟨.none,rfl,ax (hQ _ Xf (Heap.SameBut.update ..))⟩))
  |exact ax ⟨.none,rfl,ax (hQ _ Xf (Heap.SameBut.update ..))⟩
def pE{t:Addr}{items:Array Value}{Q:ai->bW}(hh:A.handled=none)(ht:s.heap.IsList t items)
  (hQ:∀h',Heap.ExtBut s.heap.objs.size s.heap h'->Q items.toList {s with heap:=h'}):wpAny (model prog w) A (unpackItems (.ref t) items.size none) Q E s:=by
 have mP:t≠s.heap.objs.size:=by obtain⟨o,ho,_⟩:=ht;exact Nat.ne_of_lt (Heap.lt_size ho)
 unfold unpackItems;refine ae ?_
 ·unfold notIterableAtAll;refine ae (wpAny_specialOf ht.typeIs slot_list_iter.lookup ?_);refine ax ?_;simp only[Bool.false_eq_true,if_false];refine ae (bF (wpAny_pyIter_list ht ?_));refine ae (bF (ua mP items.size 0 _ _ ⟨_,fa _ rfl,rfl,rfl⟩ (ht.push _) (by lia) λh₁ ze ly=>?_));have JZ:List.take items.size (List.drop 0 items.toList)=items.toList:=by rw[List.drop_zero];exact List.take_of_length_le (by simp)
  rw[JZ];rw[aB (by simp)];have Xg:h₁.IsList t items:=(ht.push _).extBut ly.extBut mP;refine ae (bF (wpAny_pyNext_list_end hh ze Xg (by simp) λh₂ Xh=>?_));simp only[Option.isSome_none,Bool.false_eq_true,if_false];exact ax (hQ h₂ λb o hb e=>Xh b o hb (ly.extBut b o hb (cU _ e)))
end
theorem uc{name:Str}{hsh:Int}{tk:Tok}{v:Value}:∀{es:List DictEntry},StrKeys es.toArray->StrKeys (putL name hsh (.str name tk) v es).toArray
 |[],_=>λe he=>by simp[putL]at he;subst he;exact⟨name,tk,rfl⟩
 |e::r,h=>by
  have h1:=h e (by simp);have h2:StrKeys r.toArray:=λx hx=>h x (by simp at hx;simp[hx]);unfold putL
  split
  ·intro x hx;simp at hx;rcases hx with q|q
   ·subst q;exact h1
   ·exact h2 x (by simpa using q)
  ·intro x hx;simp at hx;rcases hx with q|q
   ·subst q;exact h1
   ·exact uc h2 x (by simpa using q)
def iz(es:List DictEntry)(x:Str):nsFind es.toArray x=(es.find? λe=>e.key.isStr x).map (·.val):=by unfold nsFind findBy;rw[List.find?_toArray]
theorem p9{name:Str}{hsh:Int}{tk:Tok}{v:Value}(x:Str):∀{es:List DictEntry},StrKeys es.toArray->nsFind (putL name hsh (.str name tk) v es).toArray x=if x=name then some v else nsFind es.toArray x
 |[],_=>by
  rw[iz,iz];by_cases h:x=name
  ·subst h;simp[putL,Value.isStr]
  ·have:(name==x)=false:=dQ.mpr λe=>h e.symm;simp[putL,Value.isStr,this,h]
 |e::r,hs=>by
  obtain⟨k,t,hk⟩:=hs e (by simp);have h2:StrKeys r.toArray:=λx hx=>hs x (by simp at hx;simp[hx]);have ih:=p9 (name:=name) (hsh:=hsh) (tk:=tk) (v:=v) x h2;rw[iz,iz]at ih⊢;have he:∀y,e.key.isStr y=(k==y):=λy=>by rw[hk];rfl
  unfold putL;rw[he];by_cases h1:k=name
  ·subst h1;simp only[cW,if_true];by_cases hx:x=k
   ·subst hx;simp[he]
   ·have:(k==x)=false:=dQ.mpr λq=>hx q.symm;simp[he,this,hx]
  ·have hb:(k==name)=false:=dQ.mpr h1;simp only[hb,Bool.false_eq_true,if_false,List.find?_cons,he];by_cases hx:k=x
   ·subst hx;simp[h1]
   ·have:(k==x)=false:=dQ.mpr hx;simp only[this];exact ih
theorem rP{name:Str}{hsh:Int}{key v:Value}:∀{es:List DictEntry},(putL name hsh key v es).length=if es.any (·.key.isStr name)then es.length else es.length+1
 |[]=>rfl|e::r=>by
  unfold putL;by_cases h:e.key.isStr name=true
  ·simp[h]
  ·simp only[h,if_false,Bool.false_eq_true,List.length_cons,rP (es:=r),List.any_cons,Bool.false_or]
   split<;>rfl
def zg{prog:Program}{w:World}{A:Around}{R:A1}{s:Shared}{K:Frag}{x C:Addr}{ox:Obj}{dx:Addr}{name:Str}{tk:Tok}{v:Value}{es:List DictEntry}{n:Nat}(X:K.In s.heap)
  (I:PySem.W.InstAt s.heap x ox C (some (PySem.W.dictOf es n))) (D:s.heap.get? dx=some (PySem.W.dictOf es n)) (hd:ox.dict=some dx) (hp:plainOver K C=true) (ht:takerIn K C name=some none) (hh:(clsIn K C).any (·.hasDict)=true)
  (hk:StrKeys es.toArray) (hz:es.length<=1000)
  (h:∀h',h'.get? dx=some (PySem.W.dictOf (putL name (PyData.keyHash w.params name) (.str name s.toks) v es) (putN name es n))->Heap.SameBut dx s.heap h'->R (.ok (.ret .none)) {s with heap:=h',toks:=s.toks+1}):
  codeAny (model prog w) A (.call (.builtin "object.__setattr__") ⟨[.ref x,.str name tk,v],[]⟩) R s:=by
 refine osa_open X I hp ht λb=>?_;obtain⟨cd,hc,A4⟩:=any_some hh;have D':=Heap.get?_update_self (Obj.putName name (PyData.keyHash w.params name) (.str name s.toks) v) D (by rw[putName_dict];rfl);obtain⟨hx,D8,hn,-⟩:=I;obtain⟨oc,odi,oda,osl⟩:=ox
 dsimp only at D8 hd
 subst D8 hd;refine ae (ax (ae (ae (wpAny_loadPart hx (ae ((looks_clsIn X hc).here ?_))))));rw[A4];refine ax (a:=some dx) (ae (ax (ae ?_)));unfold nsSet;refine ae (ae (wpAny_askSetting (ax (ae (wpAny_mkText (ae (wpAny_loadPart D ?_)))))))
 dsimp only
 have c:(!es.toArray.any (·.key.isStr name)&&es.toArray.any (·.refKey))=false:=by
  have:es.toArray.any (·.refKey)=false:=by
   rw[Array.any_eq_false];intro i hi;obtain⟨k,t,e⟩:=hk es.toArray[i] (Array.getElem_mem hi);unfold DictEntry.refKey;rw[e];simp
  rw[this,Bool.and_false]
 rw[aRefKeyMayBeTheName_at,c];refine wpAny_updatePart D ?_;refine ae (wpAny_lookBehind D' (by
  rw[putName_dict];refine pastItsLine_dict ?_;rw[List.size_toArray,rP,sizeLine_eq];split<;>lia) ?_)
 refine ax (h _ ?_ (Heap.SameBut.update ..));exact D'.trans (by rw[putName_dict])
def Rg{fs:List (At×Value)}{a:At}{v:Value}{y:Str}:((fs.map λp=>if p.1=a then(a,v)else p).find? λp=>p.1.str==y)=(fs.find? λp=>p.1.str==y).map λp=>if p.1=a then(a,v)else p:=by
 rw[List.find?_map]
 congr 2
 funext p
 show((if p.1=a then(a,v)else p).1.str==y)=(p.1.str==y)
 by_cases h:p.1=a
 ·rw[av h,h]
 ·rw[aB h]
def wR(fs:List (At×Value))(a:At):(fs.lookup a).isSome=(nsMap fs a.str).isSome:=by rw[kL]
def found{fs:List (At×Value)}{y:Str}{p:At×Value}(e:(fs.find? λp=>p.1.str==y)=some p):p.1.str=y:=eq_of_beq (List.find?_some (p:=λp:At×Value=>p.1.str==y) e)
def CR(fs:List (At×Value))(a:At)(v:Value)(y:Str):(if y=a.str then some v else nsMap fs y)=nsMap (og fs a v) y:=by
 unfold og;have E9:=wR fs a;by_cases h:(fs.lookup a).isSome=true
 ·rw[av h];rw[h]at E9;unfold nsMap at E9⊢;rw[Rg]
  cases e:fs.find? λp=>p.1.str==y with
  |none=>rw[aB λq=>by rw[q]at e;rw[e]at E9;cases E9];rfl|some p=>
   have z:=found e
   show _=some (if p.1=a then(a,v)else p).2
   by_cases q:p.1=a
   ·rw[av q,av (by rw[<-z,q])]
   ·rw[aB q,aB λr=>q (At.inj (z.trans r))];rfl
 ·rw[aB h];unfold nsMap;rw[List.find?_append];by_cases hy:y=a.str
  ·rw[av hy,hy];rw[eq_false_of_ne_true h]at E9;unfold nsMap at E9
   cases e:fs.find? λp=>p.1.str==a.str with
   |some p=>rw[e]at E9;exact iM E9|none=>rw[Option.none_or,List.find?_singleton,av (cW a.str)];rfl
  ·rw[aB hy,List.find?_singleton,aB (λq=>hy (eq_of_beq q).symm),Option.or_none]
section
variable{K:Pt}{X:bA}{Q:Unit->bA}{v:Value}{x:Addr}
def Pt.put{o o':MO}{h':Heap}{tk:Nat}{d:Addr}(h2:K.H d=some o)(m:o.mut=true)(hs:Heap.SameBut d K.s.heap h')(r:je (K.F.prog,K.F.w) h' d o')(q:Q () (K.H.set d o')):K.fk Q () {K.s with heap:=h',toks:=tk}:=
 ⟨_,q,Rel.put K.R h2 m hs r tk,Ext.put _ h2 m hs⟩
def Rh{h':Heap}{d:Addr}{es:List DictEntry}{n hsh:_}{tk:Tok}{a:At}{fs:List (At×Value)}(r3:StrKeys es.toArray)(r4:∀x,(nsFind es.toArray x).map er=nsMap fs x)(r5:es.length=fs.length)(hd:h'.get? d=some (PySem.W.dictOf (putL a.str hsh (.str a.str tk) v es) n)):RNs h' d (og fs a (er v)):=by
 refine⟨_,_,hd,uc r3,λy=>?_,?_⟩
 ·rw[p9 y r3,<-CR,<-r4 y];by_cases h:y=a.str
  ·rw[av h,av h];rfl
  ·rw[aB h,aB h]
 ·have abz:es.any (·.key.isStr a.str)=(fs.lookup a).isSome:=by
   rw[wR,<-r4,Option.isSome_map,iz,Option.isSome_map,Bool.eq_iff_iff,List.find?_isSome,List.any_eq_true]
  rw[rP,abz,r5];unfold og;by_cases h:(fs.lookup a).isSome=true
  ·rw[av h,av h,au]
  ·rw[aB h,aB h,aE];rfl
def Xi{a:At}(w:yD a (er v) K.H (Q ()) x):K.Wp (setAttr (.ref x) a.str v) Q X:=by
 obtain⟨cl,d,fs,h1,h2,hl,hq⟩:=w;obtain⟨r1,D8⟩:=K.R.objs x _ h1;obtain⟨es,n,r2,r3,r4,r5⟩:=K.R.objs d _ h2;have c:=K.F.Qz cl D8;have X:=K.F.X.keeps K.R.stays;have E9:PySem.W.InstAt K.s.heap x (instObj cl d) cl (some (PySem.W.dictOf es n)):=⟨r1,rfl,rfl,r2⟩
 exact set_plain X E9 c.2.2.2.1 (zg (s:={K.s with toks:=K.s.toks+1}) X E9 r2 rfl c.2.2.2.2.1 (c.2.2.2.2.2 a) c.2.1 r3 (by rw[r5];exact cM hl) λh' hd hs=>K.put (o':=.ns _) h2 rfl hs (Rh r3 r4 r5 hd) hq)
def Xj{k:Int}{t:Tok}(w:gL (er v) K.H (Q ()) x k):K.Wp (setItem (.ref x) (.int k t) v) Q X:=by
 obtain⟨xs,h1,h2,h3,hq⟩:=w;obtain⟨items,l1,rfl,z1⟩:=K.R.objs x _ h1;rw[au,cL]at h3;have z2:=oG z1;have hs:sizeLine=2^24:=rfl;refine tx l1 h2 (by lia) h3 λh' hl hs=>K.put h1 rfl hs (o':=.list _) ⟨_,hl,?_,?_⟩ hq
 ·rw[Array.toList_setIfInBounds,List.map_set]
 ·rw[eJ];exact z1
def Xk{k:Str}{t:Tok}(w:jV (er v) K.H (Q ()) x k):K.Wp (setItem (.ref x) (.str k t) v) Q X:=by
 obtain⟨es,h1,h2,h3,hq⟩:=w;obtain⟨kvs,d1,rfl,n1⟩:=K.R.objs x _ h1;have hst:stored kvs k v=kvs++[(k,v)]:=by
  unfold stored;rw[aB];intro q;obtain⟨kv,O4,he⟩:=List.any_eq_true.mp q;have hm:((kvs.map λp=>(p.1,er p.2)).lookup k).isSome=true:=List.lookup_isSome_iff.mpr ⟨_,jb ⟨kv,O4,rfl⟩,beq_iff_eq.mpr (cf he).symm⟩;rw[h2]at hm;exact iM hm
 refine wpAny_setItem_pairs (knd:=strKind K.F.prog K.F.w) (strKind_is K.F.prog K.F.w k t) d1 (λh' hd hs=>?_) (by rw[au]at h3;exact cM h3);rw[hst]at hd;exact K.put h1 rfl hs (o':=.dict _) ⟨_,hd,bM,n1⟩ hq
def unp{a:Addr}{items:Array Value}{P:ai->bW}{E:gp}(q:jf K.s.heap a items)(h:∀h',(∀b o,K.s.heap.get? b=some o->h'.get? b=some o)->P items.toList {K.s with heap:=h'}):wpAny K.F.M K.A (unpackItems (.ref a) items.size none) P E K.s:=by
 have fin:∀h',Heap.ExtBut K.s.heap.objs.size K.s.heap h'->P items.toList {K.s with heap:=h'}:=λh' hk=>h h' λb o e=>hk b o (λz=>aI (eW _) (z▸e)) e
 cases q with
 |list q=>exact pE K.hf.handled q fin|tup q=>exact wpAny_unpackItems_tuple K.hf.handled q fin
def Fb{a:Addr}{n:Nat}{Q:ai->bA}(w:Got (dP (K.H a)) λxs=>xs.length=n/\∀vs,vs.map er=xs->Q vs K.H):K.Wp (unpackItems (.ref a) n none) Q X:=by
 obtain⟨xs,h1,h2,hQ⟩:=w
 cases lS K.R h1 with
 |mk items q e iW=>
  subst e;rw[au,cL]at h2;subst h2;exact unp q λh' k=>⟨K.H,hQ _ rfl,K.R.more _ k,.more _ k⟩
end
structure VW(c:Sc)(m:T)(y:Expr):Prop where
 st:∀ys env,assignEach (y::ys) env=(false,assign y env)::assignEach ys env
 run:∀(K:Kb c)(v:Value)(P:qC),Qv K.sp K.F.tb m (er v) K.ρ K.H P->K.W (assign y K.env v) (λj=>P) λj=>False
structure Ri(c:Sc)(m:T)(ys:List Expr):Prop where
 len:∀env,(assignEach ys env).length=ys.length/\m.len=ys.length/\(assignEach ys env).findIdx? (·.1)=none
 run:∀(K:Kb c)(vs:ai)(P:qC),sZ K.sp K.F.tb m (vs.map er) K.ρ K.H P->K.W (assignInOrder ((assignEach ys K.env).map (·.2)) vs) (λj=>P) λj=>False
section
variable{c:Sc}{o i:E}{x y z:Expr}{ys:List Expr}{p:Pos}{t ts:T}
def Kz{n:Str}{j:Nat}(h1:storeOk c n=true)(hi:c.im.lookup n=some j):VW c (.name j) (.Name n p):=⟨λJ J=>rfl,λK v P w=>by
 show K.W (do standAt p;bindName K.env n v) _ _
 exact Kb.d5 (Ba h1 hi w)⟩
def KA{f:At}(h:SE c o x):VW c (.attr o f) (.Attribute x f.str p):=⟨λj j=>rfl,λK v P w=>by
 show K.W (do
   let ov<-holding [v] (eval x K.env)
   standAt p.atName
   holding [v,ov] (setAttr ov f.str v)
   release [v,ov] []) _ _
 refine K.nQ (Pt.hold (h K.toKt _ _ w)) λu n w=>Kb.d5 ?_;exact isRef (C:=λu=>(K.at (K.ne n)).W (do holding [v,u] (setAttr u f.str v);release [v,u] []) (λj=>P) λj=>False) w λa w=>(K.at (K.ne n)).nQ (Pt.hold (Xi (Q:=λj=>P K.ρ) w)) λj n2 w=>wpAny_release (Kb.here (K:=(K.at (K.ne n)).at _) w)⟩
def zh(x z:Expr)(pos:Pos)(env:Env)(v:Value):∃l:Value->Value->ai,assign (.Subscript x z pos) env v=(do
   let ov<-holding [v] (eval x env)
   let iv<-holding [v,ov] (eval z env)
   standAt pos
   holding [v,ov,iv] (setItem ov iv v)
   release (l ov iv) []):=⟨_,rfl⟩
def Rj{K:Pt}{X:bA}{P:bA}{v u j:Value}(w:bp (er u) λx=>gG (er j) (gL (er v) K.H P x) (jV (er v) K.H P x) λJ=>False):K.Wp (setItem u j v) (λJ=>P) X:=
 isRef (C:=λu=>K.Wp (setItem u j v) (λJ=>P) X) w λa w=>oy (C:=λj=>K.Wp (setItem (.ref a) j v) (λJ=>P) X) w (λJ J w=>Xj (Q:=λJ=>P) w) (λJ J w=>Xk (Q:=λJ=>P) w) λJ w=>w.elim
def Rk(h:SE c o x)(hi:SE c i z):VW c (.idx o i) (.Subscript x z p):=⟨λJ J=>rfl,λK v P w=>by
 obtain⟨l,e⟩:=zh x z p K.env v;rw[e];exact K.nQ (Pt.hold (h K.toKt _ _ w)) λu n w=>(K.at (K.ne n)).nQ (Pt.hold (hi (K.at (K.ne n)).toKt _ _ w)) λj n2 w=>Kb.d5 (((K.at (K.ne n)).at ((K.at (K.ne n)).ne n2)).nQ (Pt.hold (Rj w)) λJ n3 w=>wpAny_release (Kb.here (K:=((K.at (K.ne n)).at _).at _) w))⟩
def Rl:Ri c .nil []:=⟨λj=>⟨rfl,rfl,rfl⟩,λK vs P w=>by
 cases vs with
 |nil=>exact Kb.pure w|cons=>exact w.elim⟩
def KC(h:VW c t y)(hs:Ri c ts ys):Ri c (.tup t ts) (y::ys):=⟨λenv=>by
 rw[h.st];have z:=hs.len env;exact⟨ak Nat.succ z.1,ak Nat.succ z.2.1,by rw[List.findIdx?_cons,z.2.2];rfl⟩,λK vs P w=>by
 cases vs with
 |nil=>exact w.elim|cons v vs=>
  rw[h.st]
  show K.W (do holding vs (assign y K.env v);assignInOrder ((assignEach ys K.env).map (·.2)) vs) _ _
  exact K.seq (P:=λj ρ' h'=>sZ K.sp K.F.tb ts (vs.map er) ρ' h' P) (bF (h.run K v _ w)) λj n w=>hs.run (K.at n) vs P w⟩
end
section
variable{c:Sc}{e:E}{x y z:Expr}{ys:List Expr}{p q:Pos}{t:T}{k:Nat}
def iX(y x:Expr)(pos:Pos)(env:Env)(hs:swapsWith x (some y) pos.line env=pure false):exec (.Assign [y] x pos) env=(do
  standAt pos
  let v<-eval x env
  assignStores env v (<-swappedStores [y] x env) ((assignEach [y] env).map (·.2))):=by
 have e:exec (.Assign [y] x pos) env=(do
   standAt pos
   if<-swapsWithSole [y] x pos.line env then do
    evalThenUse x env λv=>assignAll v ((assignEach [y] env).map (·.2))
    pure Flow.next
   else do
    let v<-eval x env
    assignStores env v (<-swappedStores [y] x env) ((assignEach [y] env).map (·.2))):=rfl
 rw[e,show swapsWithSole [y] x pos.line env=swapsWith x (some y) pos.line env from rfl,hs];rfl
def zk(sw:∀t l env,swapsWith x t l env=pure false)(tp:∀env,swappedStores [y] x env=pure none)(ht:t.isTup=false)(h:SE c e x)(hy:VW c t y):SS c (.assign t e) (.Assign [y] x p):=λK lo Q X w=>by
 rw[iX y x p K.env (sw _ _ _)];refine Kb.d5 (K.nQ (h K.toKt _ X w) λv n w=>?_);rw[tp,hy.st];refine ae (ax ?_);show(K.at (K.ne n)).W (do assign y K.env v;pure Flow.next) _ _
 rw[ht]at w;exact(K.at (K.ne n)).seq (P:=λj ρ h=>Q (.next ρ) h) (aJ (hy.run (K.at (K.ne n)) v _ w) (λj j=>id) λj j q=>by cases q with|mk _ _ q=>exact q.elim) λj n2 w=>Kb.pure w
def Rn{K:Kb c}{α:Type}{P:α->qC}{t:Sem α}{X:bA}(h:K.W t P λj=>False):K.W t P X:=
 aJ h (λj j=>id) λj j q=>by cases q with|mk _ _ q=>exact q.elim
def Bb{K:Kt c}{v:Value}{n:Nat}{P:ai->bA}{X:bA}(w:bp (er v) λa=>Got (dP (K.H a)) λxs=>xs.length=n/\P xs K.H):∃a,v=.ref a/\K.Wp (unpackItems (.ref a) n none) (λvs h=>vs.length=n/\P (vs.map er) h) X:=
 isRef (C:=λv=>∃a,v=.ref a/\K.Wp (unpackItems (.ref a) n none) (λvs h=>vs.length=n/\P (vs.map er) h) X) w λa w=>⟨a,rfl,Fb (by
  obtain⟨xs,h,l,w⟩:=w;exact⟨xs,h,l,λvs e=>by subst e;rw[au]at l;exact⟨l,w⟩⟩)⟩
def rQ(sw:∀t l env,swapsWith x t l env=pure false)(tp:∀(K:Kb c),swappedStores [.Tuple ys k q] x K.env=pure none)(ht:t.isTup=true)(h:SE c e x)(hy:Ri c t ys):SS c (.assign t e) (.Assign [.Tuple ys k q] x p):=λK lo Q X w=>by
 rw[iX _ x p K.env (sw _ _ _)];refine Kb.d5 (K.nQ (h K.toKt _ X w) λv n w=>?_);rw[tp];refine ae (ax ?_);rw[ht]at w;have w:bp (er v) λa=>Got (dP (n.H a)) λxs=>xs.length=t.len/\sZ K.sp K.F.tb t xs K.ρ n.H λρ' iV=>Q (.next ρ') iV:=w;obtain⟨a,rfl,un⟩:=Bb (K:=(K.at (K.ne n)).toKt) (P:=λxs h=>sZ K.sp K.F.tb t xs K.ρ h λρ' iV=>Q (.next ρ') iV) (X:=X) w;show(K.at (K.ne n)).W (do(do standAt q;unpack (.ref a) (assignEach ys K.env));pure Flow.next) _ _
 have z:=hy.len K.env;refine(K.at (K.ne n)).seq (P:=λj ρ h=>Q (.next ρ) h) (Kb.d5 ?_) λj n2 w=>Kb.pure w;unfold unpack;exact z.1▸z.2.2▸z.2.1▸(K.at (K.ne n)).nQ (Pt.hold un) λvs n2 w=>Rn (hy.run ((K.at (K.ne n)).at _) vs _ w.2)
inductive NS(c:Sc):aF->aC->Prop
 |nil:NS c [] []
 |cons (n i ns is):c.names.lookup n=some .local->eP n=true->c.im.lookup n=some i->NS c ns is->NS c (n::ns) (i::is)
inductive TN:aF->List Expr->Prop
 |nil:TN [] []
 |cons (n p ns ys):TN ns ys->TN (n::ns) (.Name n p::ys)
noncomputable def KD:aC->T|[]=>.nil|i::is=>.tup (.name i) (KD is)
def KG(is:aC):(KD is).len=is.length:=by
 induction is with
 |nil=>rfl|cons i is ih=>exact ak Nat.succ ih
def KH{sp:Spec}{tb:Tab}{h:Hp}{P:qC}{is:aC}:∀{vs:ai}{ρ:aS},sZ sp tb (KD is) vs ρ h P->P (cz ρ is vs) h:=by
 induction is with
 |nil=>exact λ{vs ρ} w=>by cases vs with
  |nil=>exact w|cons=>exact w.elim
 |cons i is ih=>exact λ{vs ρ} w=>by cases vs with
  |nil=>exact w.elim|cons v vs=>exact ih (vs:=vs) (ρ:=ρ.set i (some v)) w
def Fc{n:Str}(h1:c.names.lookup n=some .local)(h2:eP n=true):storeOk c n=true:=by
 unfold storeOk;rw[h1,h2];rfl
inductive pF(c:Sc):Expr->aC->Bool->Prop
 |one (n p i):c.names.lookup n=some .local->c.im.lookup n=some i->pF c (.Name n p) [i] true
 |many (ns ys is k p):TN ns ys->NS c ns is->pF c (.Tuple ys k p) is false
def TN.len{ns:aF}{ys:List Expr}(h:TN ns ys):ns.length=ys.length:=by
 induction h with
 |nil=>rfl|cons n p ns ys _ ih=>exact ak Nat.succ ih
def NS.len{ns:aF}{is:aC}(h:NS c ns is):ns.length=is.length:=by
 induction h with
 |nil=>rfl|cons n i ns is _ _ _ _ ih=>exact ak Nat.succ ih
def NS.snoc{ns:aF}{is:aC}(h:NS c ns is){n:Str}{i:Nat}(h1:c.names.lookup n=some .local)(h2:eP n=true)(h3:c.im.lookup n=some i):NS c (ns++[n]) (is++[i]):=by
 induction h with
 |nil=>exact .cons n i [] [] h1 h2 h3 .nil|cons m j ns is q1 q2 q3 _ ih=>exact .cons m j _ _ q1 q2 q3 ih
def NS.rev{ns:aF}{is:aC}(h:NS c ns is):NS c ns.reverse is.reverse:=by
 induction h with
 |nil=>exact .nil|cons m j ns is q1 q2 q3 _ ih=>rw[List.reverse_cons,List.reverse_cons];exact ih.snoc q1 q2 q3
def NS.fwd(inj:c.inj){ns:aF}{is:aC}(h:NS c ns is){Ex:gp}:∀(K:Kt c)(vs:ai),vs.length=is.length->
  wpAny K.F.M K.A (assignInOrder (ns.map λn=>bindName K.env n) vs) (λj s'=>tu K (cz K.ρ is (vs.map er)) s') Ex K.s:=by
 induction h with
 |nil=>exact λK vs l=>by cases vs with
  |nil=>exact ax ⟨K.R,λj j e j=>e,K.hb⟩|cons=>cases l
 |cons n i ns is h1 h2 h3 _ ih=>exact λK vs l=>by cases vs with
  |nil=>cases l|cons v vs=>
   show wpAny K.F.M K.A (do holding vs (bindName K.env n v);assignInOrder (ns.map λn=>bindName K.env n) vs) _ _ _
   exact ae (bF (aJ (vh (K:=K) inj h1 h3) (λj s' t=>aJ (ih (K.sto t) vs (Nat.succ.inj l)) (λj j u=>t.trans u) λj j=>id) λj j=>id))
def TN.fwd(inj:c.inj){ns:aF}{is:aC}(h:NS c ns is){Ex:gp}:∀{ys:List Expr},TN ns ys->∀(K:Kt c)(vs:ai),vs.length=is.length->
  (assignEach ys K.env).length=ys.length/\(assignEach ys K.env).findIdx? (·.1)=none/\wpAny K.F.M K.A (assignInOrder ((assignEach ys K.env).map (·.2)) vs) (λj s'=>tu K (cz K.ρ is (vs.map er)) s') Ex K.s:=by
 induction h with
 |nil=>
  intro ys t K vs l;cases t
  cases vs with
  |nil=>exact⟨rfl,rfl,ax ⟨K.R,λj j e j=>e,K.hb⟩⟩|cons=>cases l
 |cons n i ns is h1 h2 h3 _ ih=>
  intro ys t K vs l
  cases t with
  |cons _ p _ ys t=>cases vs with
   |nil=>cases l|cons v vs=>
    have z:=ih t K vs (Nat.succ.inj l);refine⟨ak Nat.succ z.1,(List.findIdx?_cons ..).trans (by rw[z.2.1];rfl),?_⟩
    show wpAny K.F.M K.A (do holding vs (do standAt p;bindName K.env n v);assignInOrder ((assignEach ys K.env).map (·.2)) vs) _ _ _
    exact ae (bF (ae (fb (aJ (vh (K:=K) inj h1 h3) (λj s' t'=>aJ (ih t (K.sto t') vs (Nat.succ.inj l)).2.2 (λj j u=>t'.trans u) λj j=>id) λj j=>id))))
def wU{is:aC}:∀{vs:ai}{ρ:aS}{i:Nat}{v:Value},i∉is->cz (ρ.set i (some v)) is vs=(cz ρ is vs).set i (some v):=by
 induction is with
 |nil=>exact λJ=>rfl|cons j is ih=>exact λ{vs ρ i v} h=>by cases vs with
  |nil=>rfl|cons u vs=>
   show cz ((ρ.set i (some v)).set j (some u)) is vs=(cz (ρ.set j (some u)) is vs).set i (some v)
   rw[List.set_comm _ _ (λe:i=j=>h (by rw[e];exact .head _)),ih λm=>h (.tail _ m)]
def wV{is:aC}{i:Nat}{v:Value}:∀{vs:ai}{ρ:aS},vs.length=is.length->cz ρ (is++[i]) (vs++[v])=(cz ρ is vs).set i (some v):=by
 induction is with
 |nil=>exact λ{vs ρ} l=>by cases vs with
  |nil=>rfl|cons=>cases l
 |cons j is ih=>exact λ{vs ρ} l=>by cases vs with
  |nil=>cases l|cons u vs=>exact ih (Nat.succ.inj l)
def zm{is:aC}:∀{vs:ai}{ρ:aS},is.Nodup->vs.length=is.length->cz ρ is.reverse vs.reverse=cz ρ is vs:=by
 induction is with
 |nil=>exact λ{vs ρ} _ l=>by cases vs with
  |nil=>rfl|cons=>cases l
 |cons j is ih=>exact λ{vs ρ} nd l=>by cases vs with
  |nil=>cases l|cons u vs=>
   have nd:=nr nd;have l:=Nat.succ.inj l;rw[List.reverse_cons,List.reverse_cons,wV (by rw[List.length_reverse,List.length_reverse];exact l),ih nd.2 l];exact(wU nd.1).symm
def zo{K:Kb c}{line:Nat}{ns:aF}{ys:List Expr}{f:Expr->Option Str}(hf:∀n p,K.env.kindOf n=some .local->(p.line==line)=true->f (.Name n p)=some n)(h:TN ns ys):∀{is:aC},NS c ns is->(ys.all λy=>y.pos.line==line)=true->ys.filterMap f=ns:=by
 induction h with
 |nil=>exact λj j=>rfl|cons n p ns ys _ ih=>
  intro is q hl
  cases q with
  |cons _ i _ is h1 _ _ q=>
   rw[List.all_cons,dr]at hl;exact(List.filterMap_cons_some (hf n p ((K.hb.knd n _ h1).1 rfl) hl.1)).trans (ak _ (ih q hl.2))
def oJ(env:Env)(v:Value)(names:aF)(stores:List (Value->Sem Unit)):assignStores env v (some names) stores=(do
   rule "assign.swapped-stores"
   let items<-unpackItems v names.length none
   assignInOrder (names.reverse.map λn=>bindName env n) items.reverse
   pure Flow.next):=rfl
structure SwOk(ns:aF)(ys vs:List Expr):Prop where
 l:(ys.length==2||ys.length==3)=true
 e:(vs.length==ys.length)=true
 s:vs.any isStar=false
 n:(ys.all λy=>y.pos.line==(ys.head?.map (·.pos.line)).getD 0)=true
 d:(ns.eraseDups.length==ns.length)=true
 f:vs.all (foldedForSure 8)=false
 c:vs.all (constantsAlone 8)=false
def CS{K:Kb c}{ns:aF}{is:aC}{ys vs:List Expr}{k':Nat}{q':Pos}(h:TN ns ys)(hs:NS c ns is)(o:SwOk ns ys vs):swappedStores [.Tuple ys k q] (.Tuple vs k' q') K.env=pure (some ns):=by
 have b:K.env.blockKind=.function:=by unfold Env.blockKind;rw[K.hb.kind];rfl
 unfold swappedStores
 dsimp only
 rw[aB (by rw[o.l,bne,o.e,b];exact c8),aB (by exact λz=>c8 (o.s.symm.trans z)),zo (K:=K) (λn p h1 h2=>by
  dsimp only
  rw[h1,h2];rfl) h hs o.n,aB (by rw[bne,bne,o.d,h.len,cW];exact c8),o.f,o.c]
 rfl
def KI{ns:aF}{is:aC}{vs:List Expr}{k':Nat}{q':Pos}(sw:∀t l env,swapsWith (.Tuple vs k' q') t l env=pure false)(h:SE c e (.Tuple vs k' q'))(hn:TN ns ys)(hs:NS c ns is)(o:SwOk ns ys vs)(nd:is.Nodup)(tt:(KD is).isTup=true):SS c (.assign (KD is) e) (.Assign [.Tuple ys k q] (.Tuple vs k' q') p):=λK lo Q X w=>by
 rw[iX _ _ p K.env (sw _ _ _)];refine Kb.d5 (K.nQ (h K.toKt _ X w) λv n w=>?_);rw[CS hn hs o];refine ae (ax ?_);rw[tt]at w;have w:bp (er v) λa=>Got (dP (n.H a)) λxs=>xs.length=(KD is).len/\sZ K.sp K.F.tb (KD is) xs K.ρ n.H λρ' iV=>Q (.next ρ') iV:=w;rw[KG,<-hs.len]at w;obtain⟨a,rfl,un⟩:=Bb (K:=(K.at (K.ne n)).toKt) (P:=λxs h=>sZ K.sp K.F.tb (KD is) xs K.ρ h λρ' iV=>Q (.next ρ') iV) (X:=X) w;rw[oJ];refine ae (wpAny_rule ((K.at (K.ne n)).nQ un λvs n2 w=>?_));have l:vs.length=is.length:=w.1.trans hs.len;refine((K.at (K.ne n)).at _).seq (P:=λj ρ h=>Q (.next ρ) h) (aJ (hs.rev.fwd K.so.inj ((K.at (K.ne n)).at _).toKt vs.reverse (by rw[List.length_reverse,List.length_reverse];exact l)) (λj s' t=>Kb.stored t ?_) λj j=>id) λj n3 w=>Kb.pure w;rw[List.map_reverse,zm nd (by rw[au];exact l)];exact KH w.2
end
inductive rR(h:Heap)(x:Addr)(cls:Value)(a0:bq)(T:Addr)(fl:Value):Prop
 |mk (oe vs oT ts):h.get? x=some oe->oe.cls=cls->oe.data=.fields vs->vs[0]? =a0->vs[1]? =some (.ref T)->T≠x->h.get? T=some oT->oT.data=.fields ts->ts[3]? =some fl->rR h x cls a0 T fl
def O5(FA:bJ)(x:Addr)(T?:dz)(h h':Heap):Prop:=∀b o,h.get? b=some o->b≠x->T?≠some b->Kept FA h' b o
inductive CT(h:Heap)(x:Addr)(cls:Value)(a0:bq)(L:Addr):dz->Prop
 |no (oe vs):h.get? x=some oe->oe.cls=cls->oe.data=.fields vs->vs[0]? =a0->vs[1]? =some .none->CT h x cls a0 L none
 |yes (oe vs T oT ts):h.get? x=some oe->oe.cls=cls->oe.data=.fields vs->vs[0]? =a0->vs[1]? =some (.ref T)->T≠x->h.get? T=some oT->oT.data=.fields ts->(ts[3]? =some .none\/ts[3]? =some (rawInt L))->CT h x cls a0 L (some T)
section
variable{M:Model}{A:Around}{E:gp}{s:Shared}{base:Heap}{env e0:Env}{gP:List Env}{L x:Addr}
def wW{Q:gp}(VX:A.frames=some (e0::gP))(hl:s.heap.FunFrames base (e0::gP))
  (h0:e0.frame=some L) (hf:env.frame=some L) (h:∀h',Heap.SlotsOnly ((e0::gP).filterMap (·.frame)) s.heap h'->Q (.ref L) {s with heap:=h'}):wpAny M A (PySem.frameOf env) Q E s:=by
 unfold PySem.frameOf;refine ae (wpAny_frameEnvs VX ?_);have hdw:((e0::gP).dropWhile λx=>x.frame !=env.frame)=e0::gP:=by rw[List.dropWhile_cons,h0,hf,bne_self_eq_false];rfl
 rw[hdw];unfold frameObject;refine ae (ae (wpAny_readyFrames_fun hl λh₁ ly=>ax ?_));exact h0▸ax (h h₁ ly)
def Ro{h:Heap}{a:Addr}{o:Obj}{vs:Array Value}(e:h.get? a=some o)(d:o.data=.fields vs)(i:Nat)(v:Value):∃o',(h.update a (Obj.mapFields (·.setIfInBounds i v))).get? a=some o'/\o'.cls=o.cls/\o'.data=.fields (vs.setIfInBounds i v):=
 ⟨_,Heap.get?_update_self _ e (Obj.isFreed_of_fields (Obj.data_mapFields d _)),Obj.cls_mapFields _ _,Obj.data_mapFields d _⟩
def ud{oe:Obj}{vs:Array Value}{head:Value}{KJ:Bool}{Q:Jo}
  (VX:A.frames=some (e0::gP)) (hl:s.heap.FunFrames base (e0::gP)) (h0:e0.frame=some L) (hf:env.frame=some L)
  (he:s.heap.get? x=some oe) (hd:oe.data=.fields vs) (hsz:1<vs.size)
  (h:∀h' T,s.heap.get? T=none->rR h' x oe.cls (vs[0]?) T (rawInt L)->O5 ((e0::gP).filterMap (·.frame)) x none s.heap h'->Q () {s with heap:=h'}):
  wpAny M A (do let a<-PySem.frameOf env;let pl<-entryPlaceOf L KJ;let b<-EntryCells.newEntry head a .none (rawInt L) .none pl;setField (.ref x) 1 b) Q E s:=by
 have abA:x∉(e0::gP).filterMap (·.frame):=λhm=>by
  obtain⟨_,o,ho,Xl⟩:=hl.mem hm;rw[he]at ho;obtain rfl:=ar ho;exact Xl vs hd
 refine ae (wW VX hl h0 hf λh₁ ly=>?_);refine ae (wpAny_entryPlaceOf λpl hpl=>?_);unfold EntryCells.newEntry newFields;refine ae (wpAny_newObj_type ?_ (hpl.sizeOk5 _ _ _ _ _));have Fd:h₁.get? x=some oe:=(ly.2.1 x abA).trans he;have O6:h₁.objs.size≠x:=Nat.ne_of_gt (Heap.lt_size Fd);have h3:([head,.ref L,.none,rawInt L,.none]++(if pl.isEmpty then List.replicate 6 Value.none else pl)).toArray[3]? =some (rawInt L):=by rw[List.getElem?_toArray];rfl
 generalize([head,.ref L,.none,rawInt L,.none]++(if pl.isEmpty then List.replicate 6 Value.none else pl)).toArray=ts at h3;have hT:(h₁.push {cls:=.type "traceback",dict:=none,data:=.fields ts}).get? h₁.objs.size=some {cls:=.type "traceback",dict:=none,data:=.fields ts}:=fa h₁ rfl;have k:∀b o,h₁.get? b=some o->(h₁.push {cls:=.type "traceback",dict:=none,data:=.fields ts}).get? b=some o:=λb o e=>cU _ e;generalize h₁.push {cls:=.type "traceback",dict:=none,data:=.fields ts}=h₂ at hT k;refine wpAny_setField (k _ _ Fd) hd hsz (h _ h₁.objs.size (nK ((ly.1▸aH _))) ?_ λb o hb hbe j=>?_)
 ·obtain⟨o',z1,z2,z3⟩:=Ro (k _ _ Fd) hd 1 (.ref h₁.objs.size);exact⟨o',_,_,ts,z1,z2,z3,Array.getElem?_setIfInBounds_ne aP,by rw[Array.getElem?_setIfInBounds_self_of_lt hsz],O6,(Heap.get?_update_other _ _ (b8 O6)).trans hT,rfl,h3⟩
 ·obtain⟨sl,hs⟩:=ly.2.2 b o hb;refine⟨sl,(Heap.get?_update_other _ _ (b8 hbe)).trans (k _ _ hs),λhn=>?_⟩;have:=ly.2.1 b hn;rw[hs,hb]at this;exact ak Obj.slots (ar this)
def VY{ts:Array Value}{i:Nat}{v:Value}(h:ts[i]? =some v):i<ts.size:=(Array.getElem?_eq_some_iff.mp h).1
def wX{cls:Value}{a0:bq}{T?:dz}{Q:Jo}
  (VX:A.frames=some (e0::gP)) (hl:s.heap.FunFrames base (e0::gP)) (h0:e0.frame=some L) (hf:env.frame=some L) (ht:CT s.heap x cls a0 L T?)
  (h:∀h' T,(s.heap.get? T=none\/T?=some T)->rR h' x cls a0 T (rawInt L)->O5 ((e0::gP).filterMap (·.frame)) x T? s.heap h'->Q () {s with heap:=h'}):
  wpAny M A (noteFrame (.ref x) env) Q E s:=by
 unfold noteFrame;refine hf▸?_
 cases ht with
 |no oe vs he hc hd Xm h1=>
  cases hc;cases Xm;refine ae (wpAny_field he hd h1 ?_);rw[aB aP];exact ud VX hl h0 hf he hd (VY h1) λh' T a b c=>h h' T (.inl a) b c
 |yes oe vs T oT ts he hc hd Xm h1 O6 hT KL h3=>
  subst hc;subst Xm;refine ae (wpAny_field he hd h1 ?_);refine(av (show(Value.ref T !=Value.none)=true from rfl))▸?_;rcases h3 with h3|h3
  ·refine ae (wpAny_field hT KL h3 ?_);rw[aB (show¬((Value.none==rawInt L)=true)from c8)];refine ae (wpAny_setField hT KL (VY h3) ?_);have other:∀b,b≠T->(s.heap.update T (Obj.mapFields (·.setIfInBounds 3 Value.none))).get? b=s.heap.get? b:=λb hb=>Heap.get?_update_other _ _ (b8 hb);obtain⟨oT',hT',_⟩:=Ro hT KL 3 Value.none;generalize s.heap.update T (Obj.mapFields (·.setIfInBounds 3 Value.none))=h₁ at other hT';have Fe:∀b o,s.heap.get? b=some o->(∀vs,o.data≠.fields vs)->b≠T:=λb o hb Xl q=>by rw[q,hT]at hb;obtain rfl:=ar hb;exact Xl ts KL
   refine ud VX (hl.of_keeps λb o hb Xl=>⟨o,(other b (Fe b o hb Xl)).trans hb,rfl⟩) h0 hf ((other x (b8 O6)).trans he) hd (VY h1) λh' T' a b c=>h h' T' (.inl ?_) b λb o e n1 n2=>c b o ((other b λz=>n2 (by rw[z])).trans e) n1 (λe=>eA e);by_cases z:T'=T
   ·rw[z]at a;exact aI a hT'
   ·exact(other T' z).symm.trans a
  ·refine ae (wpAny_field hT KL h3 ?_);rw[av (show(rawInt L==rawInt L)=true from cW _)];exact ax (h s.heap T (.inr rfl) ⟨oe,vs,oT,ts,he,rfl,hd,rfl,h1,O6,hT,KL,h3⟩ λb o e j j=>.of e)
def nR{T:Addr}{cls:Value}{a0:bq}{fl:Value}{fr:dz}{Q:Jo}(ht:rR s.heap x cls a0 T fl)
  (h:∀h',rR h' x cls a0 T (fr.elim .none λf=>rawInt f)->(∀b o,s.heap.get? b=some o->b≠T->h'.get? b=some o)->Q () {s with heap:=h'}):
  wpAny M A (setFlight (.ref x) fr) Q E s:=by
 obtain⟨oe,vs,oT,ts,he,hc,hd,Xm,h1,O6,hT,KL,h3⟩:=ht;subst hc;subst Xm;have other:∀b,b≠T->(s.heap.update T (Obj.mapFields (·.setIfInBounds 3 (fr.elim Value.none λf=>rawInt f)))).get? b=s.heap.get? b:=λb hb=>Heap.get?_update_other _ _ (b8 hb);obtain⟨o',z1,z2,z3⟩:=Ro hT KL 3 (fr.elim Value.none λf=>rawInt f);unfold setFlight;refine ae (wpAny_field he hd h1 ?_);rw[av (show(Value.ref T !=Value.none)=true from rfl)];exact wpAny_setField hT KL (VY h3) (h _ ⟨oe,vs,o',_,(other x (b8 O6)).trans he,rfl,hd,rfl,h1,O6,z1,z3,by rw[Array.getElem?_setIfInBounds_self_of_lt (VY h3)]⟩ λb o e n=>(other b n).trans e)
end
inductive Traced:Value->Heap->Prop
 |mk (x cls a0 T fl h):rR h x cls a0 T fl->Traced (.ref x) h
section
variable{F:Fix}{A:Around}{fr:List Env}{H H':Hp}{h h1 h2:Heap}{s s':Shared}{x:Addr}{T?:dz}{Ls FA:bJ}
def fW(h:Heap)(H:Hp)(T:Addr):Prop:=h.get? T=none/\H T=none
def pG(nx:h.get? x=none)(nT:∀T,T?=some T->h.get? T=none){a:Addr}{o:Obj}(e:h.get? a=some o):a≠x/\T?≠some a:=⟨λz=>aI nx (z▸e),λz=>aI (nT a z) e⟩
def qH(y:e8 Ls FA H h H' h1)(b:O5 FA x T? h1 h2)(nx:h.get? x=none)(nT:∀T,T?=some T->h.get? T=none):e8 Ls FA H h H' h2:=
 ⟨λa o e n q=>(y.rest a o e n q).elim λsl e1 q1=>(b a _ e1 (pG nx nT e).1 (pG nx nT e).2).elim λOX e2 q2=>⟨OX,e2,λz=>(q2 z).trans (q1 z)⟩,
  λa ha o e=>(y.loc a ha o e).elim λo' z=>(b a _ z.1 (pG nx nT e).1 (pG nx nT e).2).elim λOX e2 j=>⟨_,e2,z.2⟩,y.same,y.ym,y.fresh⟩
def qI(R:F.R H' s')(f:Frs F A fr H' s'.heap)(b:O5 (nL fr) x T? s'.heap h2)(nx:fW F.base H' x)(nT:∀T,T?=some T->fW F.base H' T):F.R H' {s' with heap:=h2}:=by
 have key:∀a o,s'.heap.get? a=some o->a∉nL fr->a≠x->T?≠some a->h2.get? a=some o:=λa o e n1 n2 n3=>(b a o e n2 n3).elim λsl e1 q1=>by rw[e1,q1 n1]
 exact⟨λa m e=>(R.objs a m e).kept λob q=>key a ob q (λz=>aI (f.off a z) e) (λz=>aI (z▸nx.2) e) λz=>aI (nT a z).2 e,R.own,
  λa o e=>key a o (R.stays a o e) (λz=>aI (f.ow.mem z).1 e) (λz=>aI (z▸nx.1) e) λz=>aI (nT a z).1 e,R.gens,R.os⟩
inductive Seen(fr:List Env)(h:Heap)(H':Hp)(h1:Heap)(L:Addr):hJ
 |mk (x a0 T?):fW h H' x->CT h1 x (.ref 52) (some a0) L T?->(∀T,T?=some T->fW h H' T)->Seen fr h H' h1 L (.ref x)
def uX.seen{L:Addr}{e:Value}(I:uX fr h H' e h1)(hL:fr.head?.bind (·.frame)=some L):Seen fr h H' h1 L e:=by
 cases I with
 |mk x oe vs a0 _ i1 i2 i3 i4 i5 i6 i7=>cases i7 with
  |inl i7=>exact⟨x,a0,none,⟨i1,i2⟩,.no oe vs i3 i4 i5 i6 i7,(λj e=>eA e)⟩|inr i7=>
   obtain⟨T,t1,oT,ts,t2,t3,t4,t5,t6,t7⟩:=i7;exact⟨x,a0,some T,⟨i1,i2⟩,.yes oe vs T oT ts i3 i4 i5 i6 t1 t4 t5 t6 (t7.imp_right λz=>by
    obtain⟨L',q1,q2⟩:=z;rw[hL]at q1;obtain rfl:=ar q1;exact q2),λT' z=>by obtain rfl:=ar z;exact⟨t2,t3⟩⟩
def rS{T:Addr}{fl a0:Value}(nx:fW h H' x)(nT:fW h H' T)(t:rR h2 x (.ref 52) (some a0) T fl)(hfl:fl=.none\/∃L,fr.head?.bind (·.frame)=some L/\fl=rawInt L):uX fr h H' (.ref x) h2:=by
 obtain⟨oe,vs,oT,ts,t1,t2,t3,t4,t5,t6,t7,t8,t9⟩:=t;exact⟨x,oe,vs,a0,h2,nx.1,nx.2,t1,t2,t3,t4,.inr ⟨T,t5,oT,ts,nT.1,nT.2,t6,t7,t8,hfl.elim (λz=>.inl (by rw[z]at t9;exact t9)) λz=>.inr (z.imp λL (q:_/\_)=>⟨q.1,by rw[q.2]at t9;exact t9⟩)⟩⟩
def cK(R:F.R H s){a:Addr}(n:s.heap.get? a=none):F.base.get? a=none:=is_none λo z=>aI n (R.stays a o z)
def vi(f:Frs F A fr H h)(ne:fr≠[]):∃e0 gP L,fr=e0::gP/\e0.frame=some L:=by
 cases fr with
 |nil=>exact absurd rfl ne|cons e0 gP=>exact f.ow.2.1.elim λL z=>z.elim λj z=>⟨e0,gP,L,rfl,z.1⟩
end
def CT.same{h:Heap}{x L T:Addr}{cls Xn fl:Value}{a0 b0:bq}{T?:dz}(ti:CT h x cls a0 L T?)(tr:rR h x Xn b0 T fl):T?=some T/\Xn=cls/\b0=a0:=by
 obtain⟨oe',vs',oT,ts,t1,t2,t3,t4,t5,_⟩:=tr;have key:∀{oe:Obj}{vs:Array Value},h.get? x=some oe->oe.data=.fields vs->oe=oe'/\vs=vs':=λe d=>by
  cases ar (e.symm.trans t1);cases d.symm.trans t3;exact⟨rfl,rfl⟩
 cases ti with
 |no oe vs u1 u2 u3 u4 u5=>
  obtain⟨rfl,rfl⟩:=key u1 u3;cases ar (u5.symm.trans t5)
 |yes oe vs T' _ _ u1 u2 u3 u4 u5=>
  obtain⟨rfl,rfl⟩:=key u1 u3;cases ar (u5.symm.trans t5);exact⟨rfl,t2.symm.trans u2,t4.symm.trans u4⟩
def wY{M:Model}{A:Around}{E:gp}{s:Shared}{env:Env}{x T:Addr}{cls fl:Value}{a0:bq}{FA:bJ}(tr:rR s.heap x cls a0 T fl)
  (h:∀h',rR h' x cls a0 T (env.frame.elim .none λf=>rawInt f)->O5 FA x (some T) s.heap h'->E (.ref x) {s with heap:=h'}):cameBackBy M A env E (.ref x) s:=by
 obtain⟨oe,vs,oT,ts,t1,t2,t3,t4,t5,t6⟩:=id tr;unfold cameBackBy;refine ae (wpAny_field t1 t3 t5 ?_);exact(aB (show¬((Value.ref T==Value.none)=true)from c8))▸nR tr λh2 tr2 k=>h h2 tr2 λb o e n1 n2=>.of (k b o e λz=>n2 (by rw[z]))
section
variable{F:Fix}{fr:List Env}{env:Env}{c:Sc}{ρ:aS}{H:Hp}{h h':Heap}{FA:bJ}
def lQ.kept{x:Str}{i:Nat}(b:lQ F env ρ H h x i)(k:∀a∈own env,∀o,h.get? a=some o->Kept FA h' a o):lQ F env ρ H h' x i:=by
 cases b with
 |mk a v' e n q z w=>exact z.elim λo z=>(k a (oH e) o z.1).elim λsl e1 j=>⟨a,v',e,n,q,⟨_,e1,z.2⟩,w⟩
def wG.kept(b:wG env c ρ h)(k:∀a∈own env,∀o,h.get? a=some o->Kept FA h' a o):wG env c ρ h':=by
 cases b with
 |mk m e w=>
  obtain⟨o,es,ep,e1,e2,e3⟩:=e;exact(k _ (.head _) o e1).elim λsl e j=>⟨m,⟨_,es,ep,e,e2,e3⟩,w⟩
def lF.kept(b:lF F env fr c ρ H h)(k:∀a∈own env,∀o,h.get? a=some o->Kept FA h' a o):lF F env fr c ρ H h':=
 ⟨b.frame,b.kind,b.knd,b.glob,b.blt,b.off,b.new,b.ns.kept k,λy i e q=>(b.cells y i e q).kept k⟩
def vj{K:Kb c}{x:Addr}{T?:dz}(b:lF F K.env fr c ρ H h)(zp:O5 FA x T? h h')(nx:K.s.heap.get? x=none)(nT:∀T,T?=some T->K.s.heap.get? T=none):lF F K.env fr c ρ H h':=
 b.kept λa ha o e=>(K.ho a ha).2.elim λo' z=>zp a o e (pG nx nT z.1).1 (pG nx nT z.1).2
end
section
variable{c:Sc}{K:Kb c}{X:bA}{E:gp}{e:Value}{s':Shared}
def Kb.Ff{Y:gp}(p:K.Exc X e s')(hE:∀e s',K.Exc X e s'->Traced e s'.heap->E e s'):wpAny K.F.M K.A (noteFrame e K.env) (λj s'=>E e s') Y s':=by
 obtain⟨ρ',H',q,R,y,I,hb⟩:=p;have f':=K.hf.vg y;obtain⟨e0,gP,L,ef,h0⟩:=vi K.hf K.hb.frame.1;have hL:K.fr.head?.bind (·.frame)=some L:=by rw[ef];exact h0
 cases I.seen hL with
 |mk x a0 T? nx ti nT=>
  have fs:=f'.stack;have ff:=f'.ow;rw[ef]at fs ff;have bn:∀{a},fW K.s.heap H' a->fW K.F.base H' a:=λn=>⟨cK K.R n.1,n.2⟩
  refine wX fs ff h0 (K.hb.frame.2.trans hL) ti λh2 T hT tr zp=>?_;rw[<-ef]at zp;have tT:fW K.s.heap H' T:=hT.elim (λz=>⟨nP R y z,R.fresh z⟩) (nT T);exact hE _ _ ⟨ρ',H',q,qI R f' zp (bn nx) λT z=>bn (nT T z),qH y zp nx.1 λT z=>(nT T z).1,rS nx tT tr (.inr ⟨L,hL,rfl⟩),vj hb zp nx.1 λT z=>(nT T z).1⟩ ⟨x,_,_,T,_,_,tr⟩
def Kb.Xo(hE:∀e s',K.Exc X e s'->Traced e s'.heap->E e s')(p:K.Exc X e s'):notedBy K.F.M K.A K.env E e s':=K.Ff p hE
def Kb.back(hE:∀e s',K.Exc X e s'->E e s')(p:K.Exc X e s')(tr:Traced e s'.heap):cameBackBy K.F.M K.A K.env E e s':=by
 obtain⟨ρ',H',q,R,y,I,hb⟩:=p;have f':=K.hf.vg y;obtain⟨e0,gP,L,ef,h0⟩:=vi K.hf K.hb.frame.1;have hL:K.fr.head?.bind (·.frame)=some L:=by rw[ef];exact h0
 have bn:∀{a},fW K.s.heap H' a->fW K.F.base H' a:=λn=>⟨cK K.R n.1,n.2⟩
 cases tr with
 |mk x cls b0 T fl _ tr=>cases I.seen hL with
  |mk _ a0 T? nx ti nT=>
   obtain⟨rfl,rfl,rfl⟩:=ti.same tr;exact wY tr λh2 tr2 zp=>hE _ _ ⟨ρ',H',q,qI R f' zp (bn nx) λT z=>bn (nT T z),qH y zp nx.1 λT z=>(nT T z).1,rS nx (nT T rfl) tr2 (.inr ⟨L,hL,by rw[K.hb.frame.2,hL];rfl⟩),vj hb zp nx.1 λT z=>(nT T z).1⟩
end
inductive oK(F:Fix)(H:Hp)(h:Heap)(a:Addr):Prop
 |mk (o vs):H a=none->F.base.get? a=none->h.get? a=some o->o.data=.fields vs->oK F H h a
inductive It(h:Heap)(it:Addr)(i:Nat):Src->bJ->Prop
 |seq (a xs):h.IsListIter it a i->It h it i (.seq a xs) [it]
 |tup (a xs):h.IsTupleIter it a i->It h it i (.tup a xs) [it]
 |range (k j):i+j=k.toNat->IsRangeIter h it i (j:Nat) 1->It h it i (.range k) [it]
 |enum (a xs j old):it≠j->IsEnum h it j i old->h.IsListIter j a i->It h it i (.enum a xs) [it,j]
 |iN (s j t old):it≠j->IsEnum h it j i old->h.IsStrIter j (strIterType s) s t i->It h it i (.iN s) [it,j]
structure ju(F:Fix)(bD:Src)(it:Addr)(i:Nat)(ads:bJ)(H:Hp)(h:Heap):Prop where
 it:It h it i bD ads
 off:∀a∈ads,oK F H h a
section
variable{F:Fix}{bD:Src}{it:Addr}{i:Nat}{ads:bJ}{H H':Hp}{h h':Heap}{env:Env}{fr:List Env}{c:Sc}{ρ:aS}{A:Around}
def rT{a:Addr}:a∈[a]:=.head _
def Fg{a b:Addr}:b∈[a,b]:=.tail _ (.head _)
def It.keep(q:It h it i bD ads)(k:∀a∈ads,∀o,h.get? a=some o->h'.get? a=some o):It h' it i bD ads:=by
 cases q with
 |seq a xs q=>exact .seq a xs (q.imp λo z=>⟨k it rT o z.1,z.2⟩)|tup a xs q=>exact .tup a xs (q.imp λo z=>⟨k it rT o z.1,z.2⟩)|range n j e q=>exact .range n j e (k it rT _ q)|enum a xs j old ne q r=>exact .enum a xs j old ne (k it (.head _) _ q) (r.imp λo z=>⟨k j Fg o z.1,z.2⟩)|iN s j t old ne q r=>exact .iN s j t old ne (k it (.head _) _ q) (r.imp λo z=>⟨k j Fg o z.1,z.2⟩)
def oK.keep{a:Addr}(n:oK F H h a)(e:H' a=none)(k:∀o,h.get? a=some o->h'.get? a=some o):oK F H' h' a:=by
 cases n with
 |mk o vs _ b g d=>exact⟨o,vs,e,b,k o g,d⟩
def oK.no{a:Addr}(n:oK F H h a):H a=none:=by cases n with|mk o vs e=>exact e
def ju.keep(q:ju F bD it i ads H h)(k:∀a∈ads,∀o,h.get? a=some o->h'.get? a=some o):ju F bD it i ads H h':=⟨q.it.keep k,λa ha=>(q.off a ha).keep (q.off a ha).no (k a ha)⟩
def oK.nf{a:Addr}(n:oK F H h a){o:Obj}(e:h.get? a=some o)(d:cD o):False:=by
 cases n with
 |mk o' vs _ _ g d'=>rw[g]at e;obtain rfl:=ar e;exact d vs d'
def oK.frame{a:Addr}(n:oK F H h a)(f:Frs F A fr H h):a∉nL fr:=λm=>(f.ow.mem m).2.elim λo' z=>n.nf z.1 z.2
def ju.vg{Ls FA:bJ}(q:ju F bD it i ads H h)(x:e8 Ls FA H h H' h')(n:∀a∈ads,a∉Ls/\a∉FA):ju F bD it i ads H' h':=by
 have k:∀a∈ads,∀o,h.get? a=some o->h'.get? a=some o:=λa ha o e=>(x.rest a o e (n a ha).1 (d4 (q.off a ha).no)).elim λsl e1 e2=>by rw[e1,e2 (n a ha).2]
 exact⟨q.it.keep k,λa ha=>(q.off a ha).keep (by cases q.off a ha with|mk o vs e b g d=>exact x.off e g) (k a ha)⟩
def Rel.apart{P base os}{s:Shared}(R:Rel P base os H s)(tk:Nat)(n:∀a∈ads,H a=none/\base.get? a=none)(k:∀b o,s.heap.get? b=some o->b∉ads->h'.get? b=some o):Rel P base os H {s with heap:=h',toks:=tk}:=
 ⟨λa m e=>(R.objs a m e).kept λob q=>k a ob q λz=>aI (n a z).1 e,R.own,λb o e=>k b o (R.stays b o e) λz=>aI (n b z).2 e,R.gens,R.os⟩
def lF.keep(b:lF F env fr c ρ H h)(k:∀a o,h.get? a=some o->cD o->h'.get? a=some o):lF F env fr c ρ H h':=
 ⟨b.frame,b.kind,b.knd,b.glob,b.blt,b.off,b.new,by
  cases b.ns with
  |mk m e q=>exact⟨m,e.imp λo=>Exists.imp λes=>Exists.imp λep z=>⟨k _ o z.1 λvs y=>(by rw[z.2.1]at y;cases y),z.2⟩,q⟩,λx i e q=>by
  cases b.cells x i e q with
  |mk a v' e1 e2 e3 e4 e5=>exact⟨a,v',e1,e2,e3,e4.imp λo z=>⟨k _ o z.1 λvs y=>(by rw[z.2]at y;cases y),z.2⟩,e5⟩⟩
def Frs.keep(f:Frs F A fr H h)(k:∀a o,h.get? a=some o->cD o->h'.get? a=some o):Frs F A fr H h':=
 ⟨f.stack,jD (λL m o e d=>⟨o,k L o e d,d⟩) f.ow,f.off,f.handled⟩
end
section
variable{c:Sc}{K:Kt c}{ads:bJ}{h':Heap}
def Fh(off:∀a∈ads,oK K.F K.H K.s.heap a)(k:∀b o,K.s.heap.get? b=some o->b∉ads->h'.get? b=some o):∀a o,K.s.heap.get? a=some o->cD o->h'.get? a=some o:=λa o e d=>k a o e λm=>(off a m).nf e d
@[reducible] def Kt.ap(K:Kt c)(off:∀a∈ads,oK K.F K.H K.s.heap a)(tk:Nat)(k:∀b o,K.s.heap.get? b=some o->b∉ads->h'.get? b=some o):Kt c:=
 {K with s:={K.s with heap:=h',toks:=tk},R:=K.R.apart tk (λa m=>by cases off a m with|mk o vs e b g d=>exact⟨e,b⟩) k,hf:=K.hf.keep (Fh off k),hb:=K.hb.keep (Fh off k)}
inductive Item(K:Kt c)(tg:aC)(P:aS->Prop):Bool->hJ
 |one (v):P (cz K.ρ tg [er v])->Item K tg P true v
 |many (T items):jf K.s.heap T items->items.size=tg.length->P (cz K.ρ tg (items.toList.map er))->Item K tg P false (.ref T)
inductive Xp(K:Kt c)(P:aS->Prop)(s':Shared):Prop
 |mk (ρ'):P ρ'->tu K ρ' s'->Xp K P s'
def pF.run(inj:c.inj){target:Expr}{tg:aC}{one:Bool}(ht:pF c target tg one){v:Value}{P:aS->Prop}{Ex:gp}(w:Item K tg P one v):wpAny K.F.M K.A (assign target K.env v) (λj s'=>Xp K P s') Ex K.s:=by
 cases ht with
 |one n p i h1 h2=>
  cases w with
  |one v w=>
   show wpAny _ _ (do standAt p;bindName K.env n v) _ _ _
   exact ae (fb (aJ (vh (K:=K) inj h1 h2) (λj s' t=>⟨_,w,t⟩) λj j=>id))
 |many ns ys _ k q0 h1 h2=>
  cases w with
  |many T items q l w=>
   show wpAny _ _ (do standAt q0;unpack (.ref T) (assignEach ys K.env)) _ _ _
   refine ae (fb ?_);unfold unpack;have z:=TN.fwd inj h2 (Ex:=Ex) h1 K items.toList l;refine z.1▸z.2.1▸h1.len▸h2.len▸l▸?_;refine ae (bF (unp (K:=K.toPt) q λiV kk=>?_));have VZ:∀b o,K.s.heap.get? b=some o->b∉[]->iV.get? b=some o:=λb o e j=>kk b o e;exact aJ (TN.fwd inj h2 (Ex:=Ex) h1 (K.ap (ads:=[]) (λj m=>qP m) K.s.toks VZ) items.toList l).2.2 (λj s' t=>⟨_,w,t.R,λa o e n=>t.q a o (kk a o e) n,t.b⟩) λj j=>id
end
inductive j4{c:Sc}(K:Kt c)(bD:Src)(it:Addr)(ads:bJ)(i:Nat)(P:aS->Prop)(s3:Shared):Prop
 |mk (ρ'):P ρ'->K.F.R K.H s3->(∀a o,K.s.heap.get? a=some o->a∉ads->a≠K.env.locals->s3.heap.get? a=some o)->lF K.F K.env K.fr c ρ' K.H s3.heap->ju K.F bD it i ads K.H s3.heap->j4 K bD it ads i P s3
section
variable{c:Sc}{K:Kt c}{bD:Src}{it:Addr}{ads:bJ}{i:Nat}{tg:aC}{one:Bool}{target:Expr}{P:aS->Prop}{Ex:gp}{h':Heap}{tk:Nat}{v:Value}
def oL(inj:c.inj)(ht:pF c target tg one)(off:∀a∈ads,oK K.F K.H K.s.heap a)(k:∀b o,K.s.heap.get? b=some o->b∉ads->h'.get? b=some o)(I:ju K.F bD it i ads K.H h')(w:Item (K.ap off tk k) tg P one v):
  wpAny K.F.M K.A (assign target K.env v) (λj s3=>j4 K bD it ads i P s3) Ex {K.s with heap:=h',toks:=tk}:=
 aJ (pF.run (K:=K.ap off tk k) inj ht w) (λj s3 h=>by
  cases h with
  |mk ρ' p t=>exact⟨ρ',p,t.R,λa o e n n2=>t.q a o (k a o e n) n2,t.b,I.keep λa ha o e=>t.q a o e λz=>by
   obtain⟨o',g,d⟩:=(K.ap off tk k).hb.ns.nf;exact(I.off a ha).nf (z▸g) d⟩) λj j=>id
def wZ{off:∀a∈ads,oK K.F K.H K.s.heap a}{k:∀b o,K.s.heap.get? b=some o->b∉ads->h'.get? b=some o}(w:kH K.ρ tg one (er v) K.H P):Item (K.ap off tk k) tg P one v:=by
 cases one with
 |true=>exact .one v w|false=>
  refine isRef (C:=λv=>Item (K.ap off tk k) tg P false v) w λT w=>?_;obtain⟨ys,q1,q2,q3⟩:=w
  cases lS (K.ap off tk k).R q1 with
  |mk items q e _=>
   subst e;rw[au,cL]at q2;exact .many T items q q2 q3
def Xq{tar:Expr}(ht:pF c tar tg one){s:Shared}{T:String}{o:Obj}{x:Value}(ho:s.heap.get? it=some o)(hc:o.cls=.type T)(hd:o.data=.fields #[x,.int i 0])(nt:["enumerate","zip","dict_itemiterator","dict_reverseitemiterator","odict_iterator","itertools.zip_longest","itertools.pairwise"].contains T=false){Q:Jo}(q:Q () s):
  wpAny K.F.M K.A (letOwnedTupleGo tar (.ref it) v) Q Ex s:=by
 cases ht with
 |one=>exact ax q|many=>
  unfold letOwnedTupleGo
  cases v with
  |ref b=>
   refine ae (wpAny_load ho ?_);refine hc▸hd▸?_
   dsimp only
   rw[nt,Bool.false_and,aB c8];exact ax q
  |_=>exact ax q
def Turn(K:Kt c)(bD:Src)(it:Addr)(ads:bJ)(i:Nat)(target:Expr)(P:aS->Prop)(Ex:gp):bq->bW:=λr s1=>∃v,r=some v/\wpAny K.F.M K.A (letOwnedTupleGo target (.ref it) v) (λj s2=>wpAny K.F.M K.A (assign target K.env v) (λj s3=>j4 K bD it ads i P s3) Ex s2) Ex s1
def Rq{h h':Heap}{it:Addr}(hs:Heap.SameBut it h h'):∀b o,h.get? b=some o->b∉[it]->h'.get? b=some o:=λb o e z=>(hs.2 b λq=>z (by rw[q];exact rT)).trans e
def zv{a:Addr}{o:Obj}{vs:Array Value}(n:oK K.F K.H K.s.heap a)(e:h'.get? a=some o)(d:o.data=.fields vs):oK K.F K.H h' a:=by
 cases n with
 |mk o' vs' a b _ _=>exact⟨o,vs,a,b,e,d⟩
def Rr{o:Obj}{vs:Array Value}(off:∀a∈[it],oK K.F K.H K.s.heap a)(e:h'.get? it=some o)(d:o.data=.fields vs):∀a∈[it],oK K.F K.H h' a:=λa m=>by
 cases cI m;exact zv (off _ m) e d
def Fi(inj:c.inj)(ht:pF c target tg one){a:Addr}{xs:ai}(off:∀a∈[it],oK K.F K.H K.s.heap a)(q:K.s.heap.IsListIter it a i)(hh:listOf (K.H a)=some xs)(w:Got xs[i]? λx=>kH K.ρ tg one x K.H P):
  wpAny K.F.M K.A (pyNext (.ref it)) (Turn K (.seq a xs) it [it] (i+1) target P Ex) Ex K.s:=by
 cases jg K.R hh with
 |mk items l e _=>
  subst e;obtain⟨x,hx,w⟩:=w;obtain⟨y,e1,rfl⟩:=wI hx;refine wpAny_pyNext_list_item q l e1 λh' q' hs=>⟨_,rfl,?_⟩
  obtain⟨o,g,hc,hd⟩:=id q';exact Xq ht g hc hd aP (oL inj ht off (Rq hs) ⟨.seq a _ q',Rr off g hd⟩ (wZ w))
def zw{K:Pt}{a:Addr}{xs:ai}(h:K.H a=some (.tup xs)):∃items,K.s.heap.IsTuple a items/\items.toList.map er=xs:=by
 obtain⟨items,g,e,_⟩:=K.R.objs a _ h;exact⟨items,⟨_,g,rfl,_,rfl⟩,e⟩
def Fj(inj:c.inj)(ht:pF c target tg one){a:Addr}{xs:ai}(off:∀a∈[it],oK K.F K.H K.s.heap a)(q:K.s.heap.IsTupleIter it a i)(hh:K.H a=some (.tup xs))(w:Got xs[i]? λx=>kH K.ρ tg one x K.H P):
  wpAny K.F.M K.A (pyNext (.ref it)) (Turn K (.tup a xs) it [it] (i+1) target P Ex) Ex K.s:=by
 obtain⟨items,l,rfl⟩:=zw (K:=K.toPt) hh;obtain⟨x,hx,w⟩:=w;obtain⟨y,e1,rfl⟩:=wI hx;refine wpAny_pyNext_tuple_item q l e1 λh' q' hs=>⟨_,rfl,?_⟩
 obtain⟨o,g,hc,hd⟩:=id q';exact Xq ht g hc hd aP (oL inj ht off (Rq hs) ⟨.tup a _ q',Rr off g hd⟩ (wZ w))
def zx(inj:c.inj)(ht:pF c target tg one){k:Int}{j:Nat}(off:∀a∈[it],oK K.F K.H K.s.heap a)(e:i+j=k.toNat)(q:IsRangeIter K.s.heap it i (j:Nat) 1)(hi:i<k.toNat)(w:one=true/\P (cz K.ρ tg [int i])):
  wpAny K.F.M K.A (pyNext (.ref it)) (Turn K (.range k) it [it] (i+1) target P Ex) Ex K.s:=by
 obtain⟨rfl,w⟩:=w
 cases j with
 |zero=>exact absurd hi (Nat.not_lt.mpr (Nat.le_of_eq e.symm))|succ j=>
  refine wpAny_pyNext_range_item q (Int.natCast_pos.mpr (Nat.succ_pos j)) λh' q' hs=>⟨_,rfl,?_⟩
  have q2:IsRangeIter h' it ((i+1:Nat):Int) (j:Nat) 1:=by
   have e:((j+1:Nat):Int)-1=(j:Nat):=Int.add_sub_cancel (j:Int) 1;exact e▸q'
  cases ht with
  |one n p i' h1 h2=>exact ax (oL inj (.one n p i' h1 h2) off (Rq hs) ⟨.range k j (Nat.succ_add_eq_add_succ i j▸e) q2,Rr off q2 rfl⟩ (.one _ w))
def Xr{j:Addr}{o o2:Obj}{vs vs2:Array Value}(off:∀a∈[it,j],oK K.F K.H K.s.heap a)(e:h'.get? it=some o)(d:o.data=.fields vs)(e2:h'.get? j=some o2)(d2:o2.data=.fields vs2):∀a∈[it,j],oK K.F K.H h' a:=λa m=>(fY m).elim (λz=>by subst z;exact zv (off _ m) e d) λz=>by cases cI z;exact zv (off _ m) e2 d2
def ue(inj:c.inj)(ht:pF c target tg false)(off:∀a∈ads,oK K.F K.H K.s.heap a)(k:∀b o,K.s.heap.get? b=some o->b∉ads->h'.get? b=some o)(I:ju K.F bD it i ads K.H h'){T:Addr}{u x:Value}(t:h'.get? T=some {cls:=.type "tuple",data:=.seq #[u,x]})(l:tg.length=2)(w:P (cz K.ρ tg [er u,er x])):
  wpAny K.F.M K.A (assign target K.env (.ref T)) (λj s3=>j4 K bD it ads i P s3) Ex {K.s with heap:=h',toks:=tk}:=
 oL inj ht off k I (.many T #[u,x] (.tup ⟨_,t,rfl,_,rfl⟩) l.symm w)
def Xs{h1 h2:Heap}{j:Addr}(k1:∀b o,b≠it->b≠j->K.s.heap.get? b=some o->h1.get? b=some o)(s2:Heap.SameBut it h1 h2):∀b o,K.s.heap.get? b=some o->b∉[it,j]->h2.get? b=some o:=λb o e z=>
 have n1:b≠it:=λq=>z (by rw[q];exact .head _)
 (s2.2 b n1).trans (k1 b o n1 (λq=>z (by rw[q];exact Fg)) e)
def CU(inj:c.inj)(ht:pF c target tg one){a j:Addr}{old:Value}{xs:ai}(off:∀a∈[it,j],oK K.F K.H K.s.heap a)(ne:it≠j)(q1:IsEnum K.s.heap it j i old)(q2:K.s.heap.IsListIter j a i)(hh:listOf (K.H a)=some xs)(w:Got xs[i]? λx=>one=false/\tg.length=2/\P (cz K.ρ tg [int i,x])):
  wpAny K.F.M K.A (pyNext (.ref it)) (Turn K (.enum a xs) it [it,j] (i+1) target P Ex) Ex K.s:=by
 cases jg K.R hh with
 |mk items l e _=>
  subst e;obtain⟨x,hx,rfl,h2,w⟩:=w;obtain⟨y,e1,rfl⟩:=wI hx;refine wpAny_pyNext_enum_item q1 q2 l e1 ne λh1 g1 l1 t1 z1 k1=>⟨_,rfl,?_⟩
  cases ht with
  |many ns ys _ k p u1 u2=>
   refine wpAny_letOwnedTupleGo_enum g1 λh2' g2 s2=>?_;have l2:=l1.extBut s2.extBut (b8 ne);obtain⟨o,e,_,d⟩:=id l2;exact ue inj (.many ns ys _ k p u1 u2) off (Xs k1 s2) ⟨.enum a _ j _ ne g2 l2,Xr off g2 rfl e d⟩ ((s2.2 _ (Nat.ne_of_gt (Heap.lt_size q1))).trans t1) h2 w
def draws{prog:Program}{w:World}{A:Around}{j:Addr}{x:Str}{t:Tok}(hh:A.handled=none):Draws prog w A j [j] x.cps.size (λi v=>∃c u,x.cps[i]? =some c/\v=.str ⟨#[c]⟩ u) (λi h=>h.IsStrIter j (strIterType x) x t i):=by
 unfold strIterType
 split
 ·exact Draws.strAscii hh j x t
 ·exact Draws.strWide hh j x t
def zy(inj:c.inj)(ht:pF c target tg one){j:Addr}{t:Tok}{old:Value}{x:Str}(off:∀a∈[it,j],oK K.F K.H K.s.heap a)(ne:it≠j)(q1:IsEnum K.s.heap it j i old)(q2:K.s.heap.IsStrIter j (strIterType x) x t i)(hi:i<x.cps.size)(w:Got x.cps[i]? λc=>one=false/\tg.length=2/\P (cz K.ρ tg [int i,str ⟨#[c]⟩])):
  wpAny K.F.M K.A (pyNext (.ref it)) (Turn K (.iN x) it [it,j] (i+1) target P Ex) Ex K.s:=by
 obtain⟨cc,hx,rfl,h2,w⟩:=w;refine wpAny_pyNext_enum_itemD (draws (A:=K.A.in1) (t:=t) K.hf.handled) q1 q2 hi ne (λm=>ne (cI m)) λv h1 tk' hp g1 l1 t1 z1 k1=>⟨_,rfl,?_⟩
 obtain⟨c',u,hc',rfl⟩:=hp;cases hx.symm.trans hc'
 cases ht with
 |many ns ys _ k p u1 u2=>
  refine wpAny_letOwnedTupleGo_enum g1 λh2' g2 s2=>?_;have l2:=l1.extBut s2.extBut (b8 ne);obtain⟨o,e,_,d⟩:=id l2;exact ue inj (.many ns ys _ k p u1 u2) off (Xs k1 s2) ⟨.iN x j t _ ne g2 l2,Xr off g2 rfl e d⟩ ((s2.2 _ (Nat.ne_of_gt (Heap.lt_size q1))).trans t1) h2 w
def Fm(inj:c.inj)(ht:pF c target tg one)(I:ju K.F bD it i ads K.H K.s.heap)(hi:i<bD.len)(hh:bD.here K.H)(w:bD.take K.ρ tg one K.H i P):
  wpAny K.F.M K.A (pyNext (.ref it)) (Turn K bD it ads (i+1) target P Ex) Ex K.s:=by
 have off:=I.off
 cases I.it with
 |seq a xs q=>exact Fi inj ht off q hh w|tup a xs q=>exact Fj inj ht off q hh w|range k j e q=>exact zx inj ht off e q hi w|enum a xs j old ne q r=>exact CU inj ht off ne q r hh w|iN x j t old ne q r=>exact zy inj ht off ne q r hi w
def w8(K:Kt c)(ads:bJ):bq->bW:=λr s'=>r=none/\∃h',s'={K.s with heap:=h'}/\∀a o,K.s.heap.get? a=some o->a∉ads->h'.get? a=some o
def ended{j:Addr}(m:j∈ads){h':Heap}(k:Heap.ExtBut j K.s.heap h'):w8 K ads none {K.s with heap:=h'}:=⟨rfl,h',rfl,λa o e n=>k a o (λz=>n (z▸m)) e⟩
def vk{items:Array Value}(l:(items.toList.map er).length<=i):items[i]? =none:=by
 rw[au,cL]at l;exact Array.getElem?_eq_none l
def O7(I:ju K.F bD it i ads K.H K.s.heap)(hi:bD.len=i)(hh:bD.here K.H):wpAny K.F.M K.A (pyNext (.ref it)) (w8 K ads) Ex K.s:=by
 cases I.it with
 |seq a xs q=>cases jg K.R hh with
  |mk items l e _=>
   subst e;exact wpAny_pyNext_list_end K.hf.handled q l (vk (Nat.le_of_eq hi)) λh' k=>ended rT k
 |tup a xs q=>
  obtain⟨items,l,rfl⟩:=zw (K:=K.toPt) hh;exact wpAny_pyNext_tuple_end K.hf.handled q l (vk (Nat.le_of_eq hi)) λh' k=>ended rT k
 |range k j e q=>
  have hi:k.toNat=i:=hi;exact wpAny_pyNext_range_end K.hf.handled q (by lia) λh' k=>ended rT k
 |enum a xs j old ne q r=>cases jg K.R hh with
  |mk items l e _=>
   subst e;exact wpAny_pyNext_enum_end K.hf.handled q r l (vk (Nat.le_of_eq hi)) λh' k=>ended Fg k
 |iN x j t old ne q r=>
  have hi:x.cps.size=i:=hi;subst hi;exact wpAny_pyNext_enum_endD (draws (A:=K.A.in1) (t:=t) K.hf.handled) q r λh' k=>ended Fg k
def KN(I:ju K.F bD it i ads K.H K.s.heap){Q:gp}(h:Q (.ref it) K.s):wpAny K.F.M K.A (pyIter (.ref it)) Q Ex K.s:=by
 cases I.it with
 |seq a xs q=>exact wpAny_pyIter_listiter q h|tup a xs q=>exact wpAny_pyIter_tupleiter q h|range k j e q=>exact wpAny_pyIter_rangeiter q h|enum a xs j old ne q r=>exact wpAny_pyIter_enum q h|iN x j t old ne q r=>exact wpAny_pyIter_enum q h
end
inductive Made(K:Pt)(Q:Src->bA):Value->bW
 |mk (bD it ads H' s2):Q bD H'->K.F.R H' s2->Ext (nL K.fr) K.H K.s.heap H' s2.heap->ju K.F bD it 0 ads H' s2.heap->(∀a∈ads,K.s.heap.get? a=none)->Made K Q (.ref it) s2
def SI(c:Sc)(m:E)(x:Expr):Prop:=∀(K:Kt c) Q X,wpI K.sp K.F.tb K.ρ m K.H Q X->wpAny K.F.M K.A (eval x K.env) (λv s1=>wpAny K.F.M K.A (pyIter v) (Made K.toPt Q) (K.Exc X) s1) (K.Exc X) K.s
section
variable{K:Pt}{Q:Src->bA}{X:bA}{bD:Src}{it:Addr}{ads:bJ}{h':Heap}{tk:Nat}
def KO{a:Addr}(n:K.s.heap.get? a=none){o:Obj}{vs:Array Value}(e:h'.get? a=some o)(d:o.data=.fields vs):oK K.F K.H h' a:=⟨o,vs,K.R.fresh n,cK K.R n,e,d⟩
def made(q:Q bD K.H)(k:∀b o,K.s.heap.get? b=some o->h'.get? b=some o)(I:It h' it 0 bD ads)(n:∀a∈ads,K.s.heap.get? a=none/\∃o vs,h'.get? a=some o/\o.data=.fields vs):Made K Q (.ref it) {K.s with heap:=h',toks:=tk}:=
 ⟨bD,it,ads,K.H,_,q,K.R.more tk k,.more _ k,⟨I,λa m=>(n a m).2.elim λo z=>z.elim λvs z=>KO (n a m).1 z.1 z.2⟩,λa m=>(n a m).1⟩
def Fo{ob:Obj}{vs:Array Value}(q:Q bD K.H)(fr:ob.isFreed=false)(d:ob.data=.fields vs)(I:It (K.s.heap.push ob) K.s.heap.objs.size 0 bD [K.s.heap.objs.size]):Made K Q (.ref K.s.heap.objs.size) {K.s with heap:=K.s.heap.push ob}:=
 made q (λb o e=>cU _ e) I λa m=>by
  cases cI m;exact⟨eW _,ob,vs,fa _ fr,d⟩
def Nx.made{n:Nx K}{r:Value}{s':Shared}(p:Made n.p Q r s'):Made K Q r s':=by
 cases p with
 |mk bD it ads H' _ q R x I nw=>exact⟨bD,it,ads,H',_,q,R,n.x.trans x,I,λa m=>gw n.R n.x (nw a m)⟩
def Fp(a:Addr)(o:cj):aX (srcOf a o) λbD=>(∃xs,listOf o=some xs/\bD=.seq a xs)\/∃xs,o=some (.tup xs)/\bD=.tup a xs:=by
 cases o with
 |none=>exact trivial|some m=>cases m with
  |list xs=>exact .inl ⟨xs,rfl,rfl⟩|ro xs=>exact .inl ⟨xs,rfl,rfl⟩|tup xs=>exact .inr ⟨xs,rfl,rfl⟩|_=>exact trivial
def Fq{a:Addr}(w:Got (srcOf a (K.H a)) λbD=>Q bD K.H):wpAny K.F.M K.A (pyIter (.ref a)) (Made K Q) (K.Exc X) K.s:=by
 obtain⟨bD,h,w⟩:=w;rcases az (C:=λbD=>(∃xs,listOf (K.H a)=some xs/\bD=.seq a xs)\/∃xs,K.H a=some (.tup xs)/\bD=.tup a xs) (Fp a (K.H a)) h with⟨xs,e,rfl⟩|⟨xs,e,rfl⟩
 ·cases jg K.R e with|mk items l _ _=>exact wpAny_pyIter_list l (Fo w rfl rfl (.seq a xs ⟨_,fa _ rfl,rfl,rfl⟩))
 ·obtain⟨items,l,_⟩:=zw e;exact wpAny_pyIter_tuple l (Fo w rfl rfl (.tup a xs ⟨_,fa _ rfl,rfl,rfl⟩))
def zA{k:Int}{t:Tok}(w:-(2^60)<k/\k<2^60/\Q (.range k) K.H):wpAny K.F.M K.A (call (.type "range") [.int k t]) (λv s1=>wpAny K.F.M K.A (pyIter v) (Made K Q) (K.Exc X) s1) (K.Exc X) K.s:=by
 obtain⟨w1,w2,w⟩:=w;refine call_range_1 ?_;have hrs:Builtin.Range.rangeSize 0 k 1=(k.toNat:Int):=by
  rw[rangeSize_one];by_cases h:0<k
  ·rw[av h,Int.sub_zero,Int.toNat_of_nonneg (Int.le_of_lt h)]
  ·rw[aB h,Int.toNat_of_nonpos (Int.not_lt.mp h)];rfl
 refine wpAny_pyIter_range (IsRange.new K.s.heap 0 k 1 K.s.toks t (K.s.toks+1)) (small_one aP aP (Int.le_trans aP (Int.le_of_lt w1)) (Int.lt_trans w2 aP)) ?_;rw[hrs];have k1:∀b o,K.s.heap.get? b=some o->(K.s.heap.push {cls:=.type "range",data:=.fields #[.int 0 K.s.toks,.int k t,.int 1 (K.s.toks+1)]}).get? b=some o:=λb o e=>cU _ e;exact Nx.made (n:=⟨K.H,_,K.R.more (K.s.toks+1+1) k1,.more _ k1⟩) (Fo (K:=Nx.p ⟨K.H,_,K.R.more (K.s.toks+1+1) k1,.more _ k1⟩) w rfl rfl (.range k k.toNat (cX _) (fa _ rfl)))
def Bc{h':Heap}{o o2:Obj}{vs vs2:Array Value}(e:h'.get? (K.s.heap.objs.size+1)=some o)(d:o.data=.fields vs)(e2:h'.get? K.s.heap.objs.size=some o2)(d2:o2.data=.fields vs2):∀a∈[K.s.heap.objs.size+1,K.s.heap.objs.size],K.s.heap.get? a=none/\∃o vs,h'.get? a=some o/\o.data=.fields vs:=λa m=>(fY m).elim (λz=>by rw[z];exact⟨nK (Nat.le_succ _),o,vs,e,d⟩) λz=>by rw[cI z];exact⟨eW _,o2,vs2,e2,d2⟩
def CV{v:Value}(w:gG (er v) (λj=>False) (λs=>Q (.iN s) K.H) λa=>Got (listOf (K.H a)) λxs=>Q (.enum a xs) K.H):wpAny K.F.M K.A (call (.type "enumerate") [v]) (λv s1=>wpAny K.F.M K.A (pyIter v) (Made K Q) (K.Exc X) s1) (K.Exc X) K.s:=
 oy (C:=λv=>wpAny K.F.M K.A (call (.type "enumerate") [v]) (λv s1=>wpAny K.F.M K.A (pyIter v) (Made K Q) (K.Exc X) s1) (K.Exc X) K.s) w (λj j w=>w.elim)
  (λx t w=>call_enumerate_str λh' e1 e2 hz kk=>wpAny_pyIter_enum e1 (by
   obtain⟨o,a1,_,a2⟩:=id e2;exact made w kk (.iN x _ t _ (Nat.succ_ne_self _) e1 e2) (Bc e1 rfl a1 a2)))
  λa w=>by
   obtain⟨xs,e,w⟩:=w
   cases jg K.R e with
   |mk items l _ _=>
    refine call_enumerate_list l λh' e1 e2 hz kk=>wpAny_pyIter_enum e1 ?_;obtain⟨o,a1,_,a2⟩:=id e2;exact made w kk (.enum a xs _ _ (Nat.succ_ne_self _) e1 e2) (Bc e1 rfl a1 a2)
end
section
variable{c:Sc}{e:E}{x y:Expr}{p q:Pos}{n:Str}
def Xu(h:SE c e x):SI c (.hM e) x:=λK Q X w=>K.mono (h K _ X w) (λv n w=>by
 refine isRef (C:=λv=>wpAny K.F.M K.A (pyIter v) (Made K.toPt Q) (K.Exc X) n.s) w λa w=>?_;exact aJ (Fq (K:=n.p) (X:=X) w) (λj j=>Nx.made) λj j=>n.exc) λj j=>id
def Ft{T:String}{P:dm}{Q:Src->bA}{X:bA}{K:Kt c}(hn:eP n=true)(hk:c.names.lookup n=some .globalImplicit)(hv:gM.lookup n=none/\kJ.lookup n=some (.type T))(hy:CP y)(h:SE c e y)(w:K.wE e P X)
  (k:∀v (m:Nx K.toPt),P (er v) m.H->wpAny K.F.M K.A (call (.type T) [v]) (λv s1=>wpAny K.F.M K.A (pyIter v) (Made m.p Q) (m.p.Exc X) s1) (m.p.Exc X) m.s):
  wpAny K.F.M K.A (eval (.Call (.Name n q) [y] [] p) K.env) (λv s1=>wpAny K.F.M K.A (pyIter v) (Made K.toPt Q) (K.Exc X) s1) (K.Exc X) K.s:=by
 show wpAny K.F.M K.A (do callWith p (<-eval (.Name n q) K.env) [] (backTo p (starEach [y] K.env)) []) _ _ _
 refine ae (mD (K:=K) hk (.inr hv) hn ?_);rw[hy.st];refine callWith_of (P:=λj=>True) rfl (λh j=>⟨.machine,.inr (.inl rfl),Looks.of_pure rfl⟩) ?_;refine evalArgs_plain (spliced_cons (K.mono (h K P X w) (λv m w=>spliced_nil ⟨trivial,?_⟩) λj j=>id));exact aJ (k v m w) (λj j z=>aJ z (λj j=>Nx.made) λj j=>m.exc) λj j=>m.exc
def KP(hk:c.names.lookup (ofString "range")=some .globalImplicit)(hy:CP y)(h:SE c e y):SI c (.gk e) (.Call (.Name (ofString "range") q) [y] [] p):=λK Q X w=>Ft (T:="range") pX hk pX hy h w λv m w=>isInt (C:=λv=>wpAny K.F.M K.A (call (.type "range") [v]) (λv s1=>wpAny K.F.M K.A (pyIter v) (Made m.p Q) (m.p.Exc X) s1) (m.p.Exc X) m.s) w λk t w=>zA (K:=m.p) w
def Ru(hk:c.names.lookup (ofString "enumerate")=some .globalImplicit)(hy:CP y)(h:SE c e y):SI c (.lg e) (.Call (.Name (ofString "enumerate") q) [y] [] p):=λK Q X w=>Ft (T:="enumerate") pX hk pX hy h w λv m w=>CV (K:=m.p) w
end
def uf{c:Sc}(K:Kb c)(Q:lM)(X:bA):Result->bW:=λr s'=>match r with|.ok f=>K.fk (Fw Q) f s'|.error e=>K.Exc X e s'/\Traced e s'.heap
section
variable{c:Sc}{t it:E}{b:S}{x target:Expr}{l:List Stmt}{p:Pos}{K:Kb c}{Q:lM}{X:bA}
def rU{n:Nb K}{e:Value}{s':Shared}(p:(K.at n).Exc X e s'):notedBy K.F.M K.A K.env (λe s'=>K.Exc X e s'/\Traced e s'.heap) e s':=Kb.Xo (K:=K.at n) (λe s' q t=>⟨n.exc q,t⟩) p
@[reducible] def Nb.trans(n:Nb K)(m:Nb (K.at n)):Nb K:=⟨m.ρ,m.H,m.s,m.R,n.x.trans m.x,m.hb⟩
inductive Fu(K:Kb c)(bD:Src)(ia:Addr)(ads:bJ)(I:Nat->qC)(n:Nat):bW
 |mk (i) (m:Nb K):n+i=bD.len->I i m.ρ m.H->ju K.F bD ia i ads m.H m.s.heap->Fu K bD ia ads I n m.s
inductive Xv(K:Kb c)(I:Nat->qC)(n:Nat):bW
 |mk (m:Nb K):I n m.ρ m.H->Xv K I n m.s
def Fx(h:ST c t x)(hb:wQ c b l):SS c (.iG t b) (.While x l [] p):=λK lo Q X w=>by
 cases w with
 |mk I n hI step=>
  refine wpAny_While (codeAny_mono (codeAny_whileLoop (R:=uf K Q X) (Xv K I) (λn s1 h1=>?_) n ⟨⟨K.ρ,K.H,K.s,K.R,e8.refl _ _ _ _,K.hb⟩,hI⟩) λr s' h'=>?_)
  ·cases h1 with
   |mk m i1=>
    refine(K.at m).monoE (h (K.at m).toKt _ X (step n m.ρ m.H i1)) (λbb n2 w=>?_) λe s q=>rU q
    cases bb with
    |false=>exact wpAny_execs_nil (m.post (((K.at m).ne n2).post (Kb.here (K:=(K.at m).at ((K.at m).ne n2)) w)))|true=>
     rw[av rfl];refine((K.at m).at ((K.at m).ne n2)).mono (hb ((K.at m).at ((K.at m).ne n2)) lo _ X w) (λf n3 w=>?_) λe s q=>rU (((K.at m).ne n2).exc q)
     cases f with
     |next=>exact w.imp λk z=>⟨z.1,m.trans (((K.at m).ne n2).trans n3),z.2⟩
     |ret v=>exact m.post (((K.at m).ne n2).post (n3.post (Kb.here (K:=Kb.at _ n3) (Q:=Fw Q) (v:=.ret v) w)))|_=>exact w.elim
  ·cases r with|ok f=>exact h'|error e=>exact Kb.back (λe s' q=>q) h'.1 h'.2
def e8.step{Ls FA ads:bJ}{H H':Hp}{h h' iV:Heap}(x:e8 Ls FA H h H' h')(n:∀a∈ads,h.get? a=none)(k:∀a o,h'.get? a=some o->a∉ads->a∉Ls->iV.get? a=some o)(l:∀a∈Ls,∀o,h'.get? a=some o->∃o',iV.get? a=some o'/\(cD o->cD o')):e8 Ls FA H h H' iV:=
 ⟨λa o e na q=>(x.rest a o e na q).elim λsl e1 q1=>⟨sl,k a _ e1 (λz=>aI (n a z) e) na,q1⟩,
  λa ha o e=>(x.loc a ha o e).elim λo' z=>(l a ha o' z.1).imp λo2 y=>⟨y.1,λd=>y.2 (z.2 d)⟩,x.same,x.ym,x.fresh⟩
section
variable{bD:Src}{ia:Addr}{ads:bJ}{i:Nat}
def vl{H:Hp}{h:Heap}(o:tX K.env H h){a:Addr}(n:oK K.F H h a):a∉own K.env:=λm=>(o a m).2.elim λo' z=>n.nf z.1 z.2
inductive Fy(K:Kb c)(R:Nb K->Prop):bW
 |mk (m:Nb K):R m->Fy K R m.s
def CW{m:Nb K}{R:qC}{s3:Shared}(new:∀a∈ads,K.s.heap.get? a=none)(I:ju K.F bD ia i ads m.H m.s.heap){i':Nat}(h:j4 (K.at m).toKt bD ia ads i' (λρ=>R ρ m.H) s3):Fy K (λm2=>R m2.ρ m2.H/\ju K.F bD ia i' ads m2.H m2.s.heap) s3:=by
 cases h with
 |mk ρ' p R1 k b I2=>exact Fy.mk (K:=K) (⟨ρ',m.H,s3,R1,m.x.step new (λa o e na nl=>k a o e na λz=>nl (z▸.head _)) (λa ha o e=>by
   by_cases z:a=K.env.locals
   ·rw[z];exact b.ns.nf.imp λo' y=>⟨y.1,λj=>y.2⟩
   ·exact⟨o,k a o e (λy=>vl ((K.at m).ho) (I.off a y) ha) z,id⟩),b⟩:Nb K) ⟨p,I2⟩
def Fz{m:Nb K}{r:bq}{s3:Shared}{R:qC}(q:R m.ρ m.H)(new:∀a∈ads,K.s.heap.get? a=none)(I:ju K.F bD ia i ads m.H m.s.heap)(h:w8 (K.at m).toKt ads r s3):r=none/\Fy K (λm2=>R m2.ρ m2.H) s3:=by
 obtain⟨e,h',rfl,k⟩:=h;exact⟨e,Fy.mk (K:=K) (⟨m.ρ,m.H,_,(Kt.ap (K:=(K.at m).toKt) I.off m.s.toks k).R,m.x.step new (λa o e na j=>k a o e na) (λa ha o e=>⟨o,k a o e (λy=>vl ((K.at m).ho) (I.off a y) ha),id⟩),(Kt.ap (K:=(K.at m).toKt) I.off m.s.toks k).hb⟩:Nb K) q⟩
end
def oM{n i L:Nat}(hn:n+i=L)(h:i<L):n-1<n/\n-1+(i+1)=L:=by
 cases n with
 |zero=>rw[<-hn,cX]at h;exact absurd h (Nat.lt_irrefl i)|succ k=>exact⟨Nat.lt_succ_self k,(Nat.succ_add_eq_add_succ k i).symm.trans hn⟩
def Be{n i L:Nat}(hn:n+i=L)(h:¬i<L):i=L:=Nat.le_antisymm (hn▸cY i n) (Nat.le_of_not_lt h)
def FC(M:Model)(A:Around)(l:List Stmt)(env:Env)(R:A1)(E:gp)(G:bW)(s₂:Shared):Prop:=wpAny M A (execs l env) (λf s₃=>match f with
 |.next|.cont=>G s₃
 |.brk=>R (.ok .next) s₃|.ret v=>R (.ok (.ret v)) s₃) E s₂
def Bf(M:Model)(A:Around)(target:Expr)(l:List Stmt)(it:Value)(env:Env)(R:A1)(E:gp)(G:bW)(r:bq)(s₁:Shared):Prop:=match r with|none=>wpAny M A (execs [] env) (λf s₃=>R (.ok f) s₃) E s₁|some v=>wpAny M A (letOwnedTupleGo target it v) (λj s₂=>wpAny M A (assign target env v) (λj=>FC M A l env R E G) E s₂) E s₁
def w9{prog:Program}{w:World}{A:Around}{s:Shared}{R:A1}{it:Value}{env:Env}(I:Nat->bW)
  (Rv:∀n s,I n s->wpAny (model prog w) A (pyNext it) (Bf (model prog w) A target l it env R (notedBy (model prog w) A env λe s'=>R (.error e) s') λs₃=>∃m,m<n/\I m s₃) (notedBy (model prog w) A env λe s'=>R (.error e) s') s)
  (n:Nat) (h:I n s):codeAny (model prog w) A (.forLoop target it l [] env) R s:=
 codeAny_forLoop_any I (λn s h=>aJ (Rv n s h) (λr s₁ q=>by
  cases r with
  |none=>exact q|some v=>exact aJ q (λj j q=>aJ q (λj j q=>aJ q (λf j q=>by cases f<;>exact q) λj j q=>q) λj j q=>q) λj j q=>q) λj j q=>q) n h
section
variable{bD:Src}{ia:Addr}{ads:bJ}{i:Nat}{I:Nat->qC}{n:Nat}
abbrev FD(K:Kb c)(Q:lM)(X:bA):Value->bW:=notedBy K.F.M K.A K.env λe s'=>uf K Q X (.error e) s'
def FE(lo:1<=K.N){m:Nb K}(new:∀a∈ads,K.s.heap.get? a=none)(hb:wQ c b l)(I3:ju K.F bD ia i ads m.H m.s.heap)(hn:n+i=bD.len)(mP:i<bD.len){s6:Shared}
  (h6:j4 (K.at m).toKt bD ia ads (i+1) (λρ2=>bH K.sp K.F.tb b ρ2 m.H (λf h2=>eZ f (λρ3=>I (i+1) ρ3 h2) λv=>Q (.ret v) h2) X) s6):FC K.F.M K.A l K.env (uf K Q X) (FD K Q X) (λs₃=>∃m,m<n/\Fu K bD ia ads I m s₃) s6:=by
 cases CW (R:=λρ2 h'=>bH K.sp K.F.tb b ρ2 h' (λf h2=>eZ f (λρ3=>I (i+1) ρ3 h2) λv=>Q (.ret v) h2) X) new I3 h6 with
 |mk m2 z=>
  refine(K.at m2).mono (hb (K.at m2) lo _ X z.1) (λf n3 w=>?_) λe s q=>rU q
  cases f with
  |next=>exact⟨n-1,(oM hn mP).1,.mk (i+1) (m2.trans n3) (oM hn mP).2 w (z.2.vg n3.x λa ha=>⟨vl (K.at m2).ho (z.2.off a ha),(z.2.off a ha).frame (K.at m2).hf⟩)⟩
  |ret v=>exact m2.post (n3.post (Kb.here (K:=Kb.at _ n3) (Q:=Fw Q) (v:=.ret v) w))|_=>exact w.elim
def FG{P:aS->Prop}{m:Nb K}{R:A1}{E:gp}{G:bW}{r:bq}{s4:Shared}(h:Turn (K.at m).toKt bD ia ads i target P E r s4)(k:∀s6,j4 (K.at m).toKt bD ia ads i P s6->FC K.F.M K.A l K.env R E G s6):Bf K.F.M K.A target l (.ref ia) K.env R E G r s4:=by
 obtain⟨v,rfl,h⟩:=h;exact aJ h (λj s5 h5=>aJ h5 (λj s6 h6=>k s6 h6) λj j q=>q) λj j q=>q
def FH{m:Nb K}(new:∀a∈ads,K.s.heap.get? a=none)(I3:ju K.F bD ia i ads m.H m.s.heap){E:gp}{G:bW}{r:bq}{s4:Shared}(h4:w8 (K.at m).toKt ads r s4)(w:Q (.next m.ρ) m.H):Bf K.F.M K.A target l (.ref ia) K.env (uf K Q X) E G r s4:=by
 obtain⟨rfl,h5⟩:=Fz (R:=λρ h=>Q (.next ρ) h) w new I3 h4
 cases h5 with
 |mk m2 w=>exact wpAny_execs_nil (m2.post (Kb.here (K:=K.at m2) (Q:=Fw Q) (v:=.next) w))
def FI(lo:1<=K.N){tg:aC}{one:Bool}(ht:pF c target tg one)(hb:wQ c b l)(new:∀a∈ads,K.s.heap.get? a=none)(hIs:∀i ρ' h',I i ρ' h'->bD.here h')
  (step:∀i ρ' h',i<bD.len->I i ρ' h'->bD.take ρ' tg one h' i λρ2=>bH K.sp K.F.tb b ρ2 h' (λf h2=>eZ f (λρ3=>I (i+1) ρ3 h2) λv=>Q (.ret v) h2) X) (fin:∀ρ' h',I bD.len ρ' h'->Q (.next ρ') h') {s3:Shared} (h3:Fu K bD ia ads I n s3):
  wpAny K.F.M K.A (pyNext (.ref ia)) (Bf K.F.M K.A target l (.ref ia) K.env (uf K Q X) (FD K Q X) λs₃=>∃m,m<n/\Fu K bD ia ads I m s₃) (FD K Q X) s3:=by
 cases h3 with
 |mk i m hn i3 I3=>
  by_cases mP:i<bD.len
  ·exact aJ (Fm (K:=(K.at m).toKt) (K.so.inj) ht I3 mP (hIs i m.ρ m.H i3) (step i m.ρ m.H mP i3)) (λr s4 h4=>FG h4 λs6 h6=>FE lo new hb I3 hn mP h6) λe s' q=>q
  ·cases Be hn mP;exact aJ (O7 (K:=(K.at m).toKt) I3 rfl (hIs _ m.ρ m.H i3)) (λr s4 h4=>FH new I3 h4 (fin m.ρ m.H i3)) λe s' q=>q
def KQ(lo:1<=K.N){tg:aC}{one:Bool}(ht:pF c target tg one)(hb:wQ c b l){r:Value}{s2:Shared}(h:Made K.toPt (λbD h1=>qW bD K.ρ tg one (λρ' h' P=>bH K.sp K.F.tb b ρ' h' P X) h1 Q) r s2):K.F.M|>λM=>codeAny M (K.A.mark none) (.forLoop target r l [] K.env) (uf K Q X) s2:=by
 cases h with
 |mk bD ia ads H2 _ w R2 x2 I2 new=>cases w with
  |mk I hI0 hIs step fin=>exact w9 (Fu K bD ia ads I) (λn s3 h3=>FI lo ht hb new hIs step fin h3) bD.len (.mk 0 (K.ne ⟨H2,s2,R2,x2⟩) (Nat.add_zero _) hI0 I2)
end
def Ry{tg:aC}{one:Bool}(fd:∀env v,foldedSetIterable x env v=pure v)(hi:SI c it x)(ht:pF c target tg one)(hb:wQ c b l):SS c (.iH tg one it b) (.For target x l [] p):=λK lo Q X w=>by
 show wpAny K.F.M K.A (do
  standAt p
  let v<-foldedSetIterable x K.env (<-eval x K.env)
  standAt x.pos
  runOwn (.forLoop target (<-holding [v] (pyIter v)) l [] K.env) K.env) _ _ _
 refine ae (fb (ae (aJ (hi K.toKt _ X w) (λv s1 h1=>?_) λj j q=>K.E8 q)));rw[fd];refine ae (ax (ae (fb (ae (bF (aJ h1 (λr s2 h2=>wpAny_runOwn (codeAny_mono (KQ lo ht hb h2) λr s' h'=>?_)) λj j q=>K.E8 q))))))
 cases r with
 |ok f=>exact h'|error e=>exact Kb.back (λe s' q=>q) h'.1 h'.2
end
abbrev O8:Value->bW:=λj j=>False
def FJ(M:Model)(A:Around)(iu:Expr)(jF:List Expr)(acc:Value)(env:Env)(G:bW)(s₃:Shared):Prop:=
 wpAny M A (forIn jF true λc r=>if r=true then do let ok<-isTrue c env (eval c env);pure (ForInStep.yield ok)else pure (ForInStep.yield r)) (λok s₄=>mO ok (wpAny M A (eval iu env) (λx s₅=>wpAny M A (call (.builtin "list.append") [acc,x]) (λj=>G) O8 s₅) O8 s₄) (G s₄)) O8 s₃
def FK(M:Model)(A:Around)(iu target:Expr)(jF:List Expr)(it acc:Value)(env:Env)(R:bW)(G:bW)(r:bq)(s₁:Shared):Prop:=match r with|none=>R s₁|some v=>wpAny M A (letOwnedTupleGo target it v) (λj s₂=>wpAny M A (assign target env v) (λj=>FJ M A iu jF acc env G) O8 s₂) O8 s₁
def vm{prog:Program}{w:World}{A:Around}{R:A1}{s:Shared}{iu target iter:Expr}{jF:List Expr}{scope:Scope}{pos:Pos}{it acc:Value}{env:Env}(I:Nat->bW)
  (Rv:∀n s,I n s->wpAny (model prog w) A (pyNext it) (FK (model prog w) A iu target jF it acc env (R (.ok .next)) λs₆=>∃m,m<n/\I m s₆) O8 s)
  (n:Nat) (h:I n s):codeAny (model prog w) A (.compLoop (.ListComp iu [⟨target,iter,jF,0⟩] scope pos) 0 it acc env) R s:=by
 refine codeAny_loop rfl I (λn s hI=>?_) n h
 show wpAny _ A ((compTurn (.ListComp iu [⟨target,iter,jF,0⟩] scope pos) 0 it acc env).onRaise (λx=>do noteFrame x env;theTreesLotGoes x)) _ _ s
 refine wpAny_onRaise (aJ (Q:=_) (E:=O8) ?_ (λj j q=>q) λj j q=>q.elim);rw[compTurn_list];refine ae (fb (ae (aJ (Rv n s hI) (λr s₁ h₁=>?_) λj j q=>q)))
 cases r with
 |none=>exact ax h₁|some v=>
  refine ae (aJ h₁ (λj s₂ h₂=>ae (aJ h₂ (λj s₃ h₃=>ae (aJ h₃ (λok s₄ h₄=>?_) λj j q=>q)) λj j q=>q)) λj j q=>q)
  cases ok with
  |false=>exact ax ⟨rfl,h₄⟩|true=>exact ae (ae (aJ h₄ (λx s₅ h₅=>ae (aJ h₅ (λj s₆ h₆=>ax (ax ⟨rfl,h₆⟩)) λj j q=>q)) λj j q=>q))
def Agree(tg:aC)(ρ ρ':aS):Prop:=ρ.length=ρ'.length/\∀i,i∉tg->ρ[i]? =ρ'[i]?
def Agree.set{tg:aC}{ρ ρ':aS}{i:Nat}(u:bq)(h:Agree (i::tg) ρ ρ'):Agree tg (ρ.set i u) (ρ'.set i u):=⟨by rw[eJ,eJ];exact h.1,λj hj=>by
 by_cases e:i=j
 ·rw[List.getElem?_set,List.getElem?_set,av e,av e,h.1]
 ·rw[hR e,hR e];exact h.2 j λm=>(fY m).elim (λz=>e z.symm) hj⟩
def Agree.off{tg:aC}{ρ:aS}{i:Nat}(u:bq)(m:i∈tg):Agree tg (ρ.set i u) ρ:=⟨eJ,λj hj=>hR λz:i=j=>hj (z▸m)⟩
def Agree.trans{tg:aC}{a b c:aS}(x:Agree tg a b)(y:Agree tg b c):Agree tg a c:=⟨x.1.trans y.1,λi h=>(x.2 i h).trans (y.2 i h)⟩
def Agree.symm{tg:aC}{a b:aS}(x:Agree tg a b):Agree tg b a:=⟨x.1.symm,λi h=>(x.2 i h).symm⟩
def Agree.more{tg tg':aC}{a b:aS}(x:Agree tg a b)(h:∀i∈tg,i∈tg'):Agree tg' a b:=⟨x.1,λi n=>x.2 i λm=>n (h i m)⟩
def vn{tg:aC}:∀{vs:ai}{ρ ρ':aS},tg.length=vs.length->Agree tg ρ ρ'->cz ρ tg vs=cz ρ' tg vs:=by
 induction tg with
 |nil=>
  intro vs ρ ρ' l h
  cases vs with
  |nil=>exact List.ext_getElem? λi=>h.2 i dS|cons=>cases l
 |cons i is ih=>
  intro vs ρ ρ' l h
  cases vs with
  |nil=>cases l|cons v vs=>exact ih (Nat.succ.inj l) (h.set (some v))
def zB{tg:aC}:∀{vs:ai}{ρ:aS},Agree tg (cz ρ tg vs) ρ:=by
 induction tg with
 |nil=>exact λ{vs ρ}=>by cases vs<;>exact⟨rfl,λj j=>rfl⟩
 |cons i is ih=>
  intro vs ρ
  cases vs with
  |nil=>exact⟨rfl,λj j=>rfl⟩|cons v vs=>exact(ih (vs:=vs) (ρ:=ρ.set i (some v))).more (λj m=>.tail _ m)|>.trans (.off _ (.head _))
def zC{bD:Src}{tg:aC}{one:Bool}{ρ ρ':aS}{H:Hp}{i:Nat}{K:aS->Prop}(ht:one=true->tg.length=1)(h:bD.take ρ tg one H i K)(a:Agree tg ρ ρ'):
  bD.take ρ' tg one H i (λρ2=>K ρ2/\Agree tg ρ2 ρ):=by
 have FL:∀vs:ai,tg.length=vs.length->K (cz ρ tg vs)->K (cz ρ' tg vs)/\Agree tg (cz ρ' tg vs) ρ:=λvs hl k=>by rw[<-vn hl a];exact⟨k,zB⟩
 have tk:∀v,kH ρ tg one v H K->kH ρ' tg one v H (λρ2=>K ρ2/\Agree tg ρ2 ρ):=λv k=>by
  cases one with
  |true=>exact FL [v] (ht rfl) k|false=>cases v with
   |ref b=>cases k with
    |mk xs e k=>exact⟨xs,e,k.1,FL xs k.1.symm k.2⟩
   |_=>exact k.elim
 cases bD with
 |seq b xs=>cases h with|mk x e k=>exact⟨x,e,tk x k⟩
 |tup b xs=>cases h with|mk x e k=>exact⟨x,e,tk x k⟩
 |range k=>exact⟨h.1,FL [int i] (ht h.1) h.2⟩|enum b xs=>cases h with|mk x e k=>exact⟨x,e,k.1,k.2.1,FL [int i,x] k.2.1 k.2.2⟩
 |iN s=>cases h with|mk x e k=>exact⟨x,e,k.1,k.2.1,FL _ k.2.1 k.2.2⟩
def clean(ρ:aS)(tg:aC):aS:=tg.foldl (λr i=>r.set i none) ρ
def lU{tg:aC}:∀{ρ:aS},Agree tg (clean ρ tg) ρ:=by
 induction tg with
 |nil=>exact⟨rfl,λj j=>rfl⟩|cons i is ih=>exact λ{ρ}=>(ih (ρ:=ρ.set i none)).more (λj m=>.tail _ m)|>.trans (.off _ (.head _))
def zD{tg:aC}:∀{ρ:aS}{i:Nat}{v:Value},i∈tg->(clean ρ tg)[i]? ≠some (some v):=by
 induction tg with
 |nil=>exact λm=>qP m|cons j is ih=>
  intro ρ i v hm e;by_cases hi:i∈is
  ·exact ih (ρ:=ρ.set j none) hi e
  ·have z:=(fY hm).resolve_right hi;rw[<-z]at e;have q:(ρ.set i none)[i]? =some (some v):=((lU (tg:=is) (ρ:=ρ.set i none)).2 i hi).symm.trans e;rw[List.getElem?_set_self']at q
   cases z:ρ[i]? with
   |none=>rw[z]at q;exact eA q|some u=>rw[z]at q;cases q
noncomputable def pH(env:Env)(names:List (Str×NameKind))(cs:List (Str×Addr)):List (Str×Addr):=names.foldl (λcs p=>if p.2==.free then(p.1,(env.cells.lookup p.1).getD 0)::cs else cs) cs
def zE{scope:Scope}{env:Env}(h:∀p∈scope.names,p.2=.free->∃a,env.cells.lookup p.1=some a):closureFor scope env=pure (pH env scope.names []):=by
 unfold closureFor pH;have key:∀(l:List (Str×NameKind))(cs:List (Str×Addr)),(∀p∈l,p.2=.free->∃a,env.cells.lookup p.1=some a)->
   forIn l cs (λ(x:Str×NameKind) (r:List (Str×Addr))=>(if(x.2==.free)=true then do let a<-cellOf env x.1;pure (ForInStep.yield ((x.1,a)::r))else pure (ForInStep.yield r):Sem (ForInStep (List (Str×Addr)))))=
    pure (l.foldl (λcs p=>if p.2==.free then(p.1,(env.cells.lookup p.1).getD 0)::cs else cs) cs):=by
  intro l
  induction l with
  |nil=>intro cs _;rfl|cons p l ih=>
   intro cs hl;rw[List.forIn_cons,List.foldl_cons]
   cases hp:p.2==.free with
   |false=>exact ih _ λq hq=>hl q (.tail _ hq)|true=>
    obtain⟨a,ha⟩:=hl p (.head _) (eq_of_beq hp);have e:cellOf env p.1=pure a:=by unfold cellOf;rw[ha]
    rw[av rfl,av rfl,e,ha];exact ih _ λq hq=>hl q (.tail _ hq)
 have e2:closureFor scope env=(forIn scope.names [] (λ(x:Str×NameKind) (r:List (Str×Addr))=>(if(x.2==.free)=true then do let a<-cellOf env x.1;pure (ForInStep.yield ((x.1,a)::r))else pure (ForInStep.yield r):Sem (ForInStep (List (Str×Addr)))))>>=λcs=>pure cs):=rfl
 show closureFor scope env=_
 rw[e2,key scope.names [] h];rfl
def FN{env:Env}{x:Str}{l:List (Str×NameKind)}:∀{cs:List (Str×Addr)},x∉l.map (·.1)->(pH env l cs).lookup x=cs.lookup x:=by
 induction l with
 |nil=>exact λj=>rfl|cons p l ih=>
  intro cs h;refine(ih (cs:=if p.2==.free then(p.1,(env.cells.lookup p.1).getD 0)::cs else cs) λm=>h (.tail _ m)).trans ?_;by_cases z:(p.2==NameKind.free)=true
  ·rw[av z,List.lookup_cons,dQ.mpr (λq:x=p.1=>h (by rw[q];exact .head _))]
  ·rw[aB z]
def KR{env:Env}{x:Str}{a:Addr}{l:List (Str×NameKind)}:∀{cs:List (Str×Addr)},(l.map (·.1)).Nodup->(x,NameKind.free)∈l->env.cells.lookup x=some a->(pH env l cs).lookup x=some a:=by
 induction l with
 |nil=>exact λj m=>qP m|cons p l ih=>
  intro cs n m e;have n:=nr n;rcases fY m with z|z
  ·subst z;refine(FN n.1).trans ?_
   show List.lookup x ((x,_)::cs)=_
   rw[List.lookup_cons,cW,e];rfl
  ·exact ih n.2 z e
def eQ{α β:Type}[BEq α][LawfulBEq α]{l:List (α×β)}{x:α}{v:β}(n:(l.map (·.1)).Nodup)(h:(x,v)∈l):l.lookup x=some v:=by
 induction l with
 |nil=>cases h|cons p l ih=>
  have n:=nr n;rw[List.lookup_cons];rcases fY h with e|e
  ·rw[<-e,cW]
  ·rw[dQ.mpr (λz=>n.1 (jb ⟨_,e,z⟩))];exact ih n.2 e
def rV{env:Env}{names:List (Str×NameKind)}{x:Str}{k:NameKind}(h:names.lookup x=some k):∃k',(names.map λ(n,k)=>if(k==NameKind.free&&env.scope.kind==.function&&env.kindOf n==some .cell)then(n,NameKind.cell)else(n,k)).lookup x=some k'/\((k=.free/\(k'=.cell\/k'=.free))\/(k≠.free/\k'=k)):=by
 induction names with
 |nil=>exact eA h|cons p r ih=>
  obtain⟨n,k2⟩:=p;rw[List.lookup_cons]at h;rw[List.map_cons];show∃k',List.lookup x ((if(k2==NameKind.free&&env.scope.kind==.function&&env.kindOf n==some .cell)=true then(n,NameKind.cell)else(n,k2))::_)=some k'/\_
  cases hx:x==n with
  |false=>
   rw[hx]at h;refine(ih h).imp λk' q=>⟨?_,q.2⟩
   by_cases z:(k2==NameKind.free&&env.scope.kind==.function&&env.kindOf n==some .cell)=true
   ·rw[av z,List.lookup_cons,hx];exact q.1
   ·rw[aB z,List.lookup_cons,hx];exact q.1
  |true=>
   rw[hx]at h;cases h;by_cases z:(k==NameKind.free&&env.scope.kind==.function&&env.kindOf n==some .cell)=true
   ·rw[av z,List.lookup_cons,hx];rw[dr,dr]at z;exact⟨_,rfl,.inl ⟨eq_of_beq z.1.1,.inl rfl⟩⟩
   ·rw[aB z,List.lookup_cons,hx];refine⟨_,rfl,?_⟩;by_cases q:k=.free
    ·exact .inl ⟨q,.inr q⟩
    ·exact .inr ⟨q,rfl⟩
noncomputable def Sc.kN(c:Sc)(ns:aF)(tg:aC)(sc:Scope):Sc:=⟨ns.zip tg++c.im.filter (λp=>sc.names.lookup p.1==some .free&&c.names.lookup p.1==some .cell),sc.names⟩
structure tA(c:Sc)(ns:aF)(tg:aC)(sc:Scope):Prop where
 so:uW sc=true
 nd:(sc.names.map (·.1)).Nodup
 nd2:((c.kN ns tg sc).im.map (·.2)).Nodup
 nd1:((c.kN ns tg sc).im.map (·.1)).Nodup
 fr:(sc.names.all λp=>p.2!=.free||(c.names.lookup p.1==some .cell&&(c.im.lookup p.1).isSome))=true
 ns:NS (c.kN ns tg sc) ns tg
def NS.mem{c:Sc}{ns:aF}{is:aC}(h:NS c ns is){x:Str}{i:Nat}(m:(x,i)∈ns.zip is):c.im.lookup x=some i/\c.names.lookup x=some .local:=by
 induction h with
 |nil=>cases m|cons n j ns is h1 h2 h3 _ ih=>
  rcases fY m with z|z
  ·cases z;exact⟨h3,h1⟩
  ·exact ih z
section
variable{c:Sc}{ns:aF}{tg:aC}{sc:Scope}{F:Fix}{env:Env}{fr:List Env}{ρ:aS}{H:Hp}{h h4:Heap}{C:Addr}
def tA.kind(o:tA c ns tg sc):sc.kind=.function/\∀p∈sc.names,p.2=.local\/p.2=.free\/p.2=.globalImplicit:=by
 have k:=o.so;unfold uW at k;rw[dr,dr,dr,dr]at k;refine⟨eq_of_beq k.1.1.1.1,λp m=>?_⟩;have q:=bQ k.2 p m;rw[gg,gg]at q;exact q.elim (λq=>q.elim (λq=>.inl (eq_of_beq q)) λq=>.inr (.inl (eq_of_beq q))) λq=>.inr (.inr (eq_of_beq q))
def tA.free(o:tA c ns tg sc){x:Str}(m:(x,NameKind.free)∈sc.names):c.names.lookup x=some .cell/\∃j,c.im.lookup x=some j:=by
 have q:=bQ o.fr _ m;have q:(c.names.lookup x==some .cell&&(c.im.lookup x).isSome)=true:=q;rw[dr]at q;exact⟨eq_of_beq q.1,Option.isSome_iff_exists.mp q.2⟩
def tA.inj(o:tA c ns tg sc):(c.kN ns tg sc).inj:=λx y i hx hy=>tZ o.nd2 (mem_lookup hx) (mem_lookup hy)
def tA.name(o:tA c ns tg sc){x:Str}{i:Nat}(hx:(c.kN ns tg sc).im.lookup x=some i):(i∈tg/\sc.names.lookup x=some .local)\/(i∉tg/\c.im.lookup x=some i/\(x,NameKind.free)∈sc.names/\c.names.lookup x=some .cell):=by
 rcases fZ (mem_lookup hx)with z|z
 ·exact .inl ⟨(List.of_mem_zip z).2,(o.ns.mem z).2⟩
 ·have zf:=List.mem_filter.mp z;have zq:(sc.names.lookup x==some .free&&c.names.lookup x==some .cell)=true:=zf.2;rw[dr]at zq;have m:(x,NameKind.free)∈sc.names:=mem_lookup (eq_of_beq zq.1);obtain⟨j,hj⟩:=(o.free m).2;have m1:(x,j)∈(c.kN ns tg sc).im:=fC _ (List.mem_filter.mpr ⟨mem_lookup hj,zf.2⟩);cases ar ((eQ o.nd1 m1).symm.trans hx);refine .inr ⟨λq=>?_,hj,m,eq_of_beq zq.2⟩;have n:=o.nd2;unfold Sc.kN at n;rw[bM,List.map_snd_zip (Nat.le_of_eq o.ns.len.symm)]at n;exact(List.nodup_append.mp n).2.2 _ q _ (jb ⟨_,z,rfl⟩) rfl
def CX(o:tA c ns tg sc)(hb:lF F env fr c ρ H h)(k4:∀b ob,h.get? b=some ob->h4.get? b=some ob)(hC:h4.Ns C λj=>none)(nC:H C=none)(bC:F.base.get? C=none):
  lF F (compEnvC sc (pH env sc.names []) C env) fr (c.kN ns tg sc) (clean ρ tg) H h4:=by
 refine⟨hb.frame,o.kind.1,λx k hx=>?_,hb.glob,hb.blt,nC,bC,⟨_,hC,λx i v hx hl hv=>?_⟩,λx i hx hl=>?_⟩
 ·obtain⟨k',e,q⟩:=rV (env:=env) hx;have e:(compEnvC sc (pH env sc.names []) C env).kindOf x=some k':=e;rw[e];refine⟨λz=>?_,λz=>?_,λz=>?_⟩
  ·rcases q with q|q
   ·rw[z]at q;cases q.1
   ·rw[q.2,z]
  ·rcases q with q|q
   ·rw[z]at q;cases q.1
   ·rw[q.2,z]
  ·rcases q with q|q
   ·exact q.2.imp (ak some) (ak some)
   ·rcases z with z|z
    ·rcases o.kind.2 _ (mem_lookup hx)with y|y|y<;>(rw[show k=_ from y]at z;cases z)
    ·exact absurd z q.1
 ·rcases o.name hx with z|z
  ·exact absurd hv (zD z.1)
  ·have:=eQ o.nd z.2.2.1;rw[show sc.names.lookup x=_ from hl]at this;cases this
 ·rcases o.name hx with z|z
  ·have z2:(c.kN ns tg sc).names.lookup x=some .local:=z.2;rw[z2]at hl;exact hl.elim nofun nofun
  ·cases hb.cells x i z.2.1 (.inl z.2.2.2)with|mk a v' e1 e2 e0 e3 e4=>exact⟨a,v',KR o.nd z.2.2.1 e1,e2,e0,e3.imp λob y=>⟨k4 a ob y.1,y.2⟩,λv hv=>e4 v (((lU (ρ:=ρ)).2 i z.1).symm.trans hv)⟩
def qa(o:tA c ns tg sc)(hb:lF F env fr c ρ H h):closureFor sc env=pure (pH env sc.names []):=zE λp m e=>by
 obtain⟨x,k⟩:=p;subst e;obtain⟨e1,j,e2⟩:=o.free m;cases hb.cells x j e2 (.inl e1)with
 |mk a _ e=>exact⟨a,e⟩
end
def SF(c:Sc)(m:E)(jF:List Expr):Prop:=∀(K:Kt c) P X,K.wE m (Tb P) X->K.Wp (forIn jF true λc r=>if r=true then do let ok<-isTrue c K.env (eval c K.env);pure (ForInStep.yield ok)else pure (ForInStep.yield r)) P X
def Xw{c:Sc}:SF c (.lit (.bool true)) []:=λK P X w=>Pt.pure (K:=K.toPt) w
def Xx{c:Sc}{m:E}{y:Expr}(h:ST c m y):SF c m [y]:=λK P X w=>by
 rw[List.forIn_cons,av rfl];exact ae (ae (K.mono (h K P X w) (λb n w=>ax (ax ⟨n.H,w,n.R,n.x⟩)) λj j q=>q))
def Ext.step{FA ws:bJ}{H H':Hp}{h h' iV:Heap}(x:Ext FA H h H' h')(n:∀a∈ws,h.get? a=none)(k:∀a o,h'.get? a=some o->a∉ws->iV.get? a=some o):Ext FA H h H' iV:=
 ⟨λa o e q=>(x.rest a o e q).elim λsl e1 q1=>⟨sl,k a _ e1 (λz=>aI (n a z) e),q1⟩,x.same,x.ym,x.fresh⟩
def Xy{h:Heap}{a:Addr}{ys:Array Value}(x:h.PlainList a ys){v:bq}(y:h.IsCell a v):False:=by
 obtain⟨n,e⟩:=x;obtain⟨o,e',d⟩:=y;rw[e]at e';obtain rfl:=ar e';cases d
structure Cp{c:Sc}(K:Kt c)(c':Sc)(dB:Env)(tg:aC)(bD:Src)(it:Addr)(ads:bJ)(D:Addr)(i:Nat)(ys:Array Value)where
 n:Nx K.toPt
 ρ:aS
 ag:Agree tg K.ρ ρ
 hb:lF K.F dB K.fr c' ρ n.H n.s.heap
 I:ju K.F bD it i ads n.H n.s.heap
 l:n.s.heap.PlainList D ys
 nD:n.H D=none
structure Cf{c:Sc}(K:Kt c)(dB:Env)(ads:bJ)(D:Addr):Prop where
 new:∀a∈dB.locals::ads,K.s.heap.get? a=none
 newD:K.s.heap.get? D=none
 dc:D≠dB.locals
 da:D∉ads
section
variable{c c':Sc}{K:Kt c}{dB:Env}{tg:aC}{bD:Src}{it:Addr}{ads:bJ}{D:Addr}{R:qC}{s3:Shared}{i:Nat}{ys:Array Value}
@[reducible] def Cp.k(p:Cp K c' dB tg bD it ads D i ys):Kt c':={toPt:=p.n.p,env:=dB,ρ:=p.ρ,sp:=K.sp,S:=K.S,hb:=p.hb}
inductive zF(K:Kt c)(c':Sc)(dB:Env)(tg:aC)(bD:Src)(it:Addr)(ads:bJ)(D:Addr)(i:Nat)(ys:Array Value)(R:qC):bW
 |mk (p:Cp K c' dB tg bD it ads D i ys):R p.ρ p.n.H->zF K c' dB tg bD it ads D i ys R p.n.s
def zF.elim{C:bW}{s:Shared}(h:zF K c' dB tg bD it ads D i ys R s)(k:∀p:Cp K c' dB tg bD it ads D i ys,R p.ρ p.n.H->C p.n.s):C s:=by
 cases h with
 |mk p r=>exact k p r
def Cp.turned(f:Cf K dB ads D)(p:Cp K c' dB tg bD it ads D i ys){i':Nat}(h:j4 p.k bD it ads i' (λρ=>R ρ p.n.H/\Agree tg ρ K.ρ) s3):zF K c' dB tg bD it ads D i' ys R s3:=by
 cases h with
 |mk ρ' q R' k b I2=>exact zF.mk (K:=K) ⟨⟨p.n.H,s3,R',p.n.x.step f.new λa o e n=>k a o e (λz=>n (.tail _ z)) λz=>n (z▸.head _)⟩,ρ',q.2.symm,b,I2,p.l.imp λn e=>k D _ e f.da f.dc,p.nD⟩ q.1
def Cf.df(f:Cf K dB ads D):D∉nL K.fr:=λm=>(K.hf.ow.mem m).2.elim λo z=>aI f.newD z.1
@[reducible] def Cp.ev(f:Cf K dB ads D)(p:Cp K c' dB tg bD it ads D i ys)(m:Nx p.k.toPt):Cp K c' dB tg bD it ads D i ys:=
 ⟨p.n.trans m,p.ρ,p.ag,p.hb.ext m.x,p.I.vg (m.x.toL [] (λj m=>qP m)) (λa ha=>⟨dS,(p.I.off a ha).frame p.n.p.hf⟩),p.l.imp λn e=>m.x.keep e (d4 p.nD) f.df,p.l.elim λn e=>m.x.off p.nD e⟩
def Cp.app(f:Cf K dB ads D)(p:Cp K c' dB tg bD it ads D i ys){h':Heap}{x:Value}(hl:h'.PlainList D (ys.push x))(hs:Heap.SameBut D p.n.s.heap h')(r:R p.ρ p.n.H):zF K c' dB tg bD it ads D i (ys.push x) R {p.n.s with heap:=h'}:=by
 have k:∀a o,p.n.s.heap.get? a=some o->a≠D->h'.get? a=some o:=λa o e n=>(hs.2 a n).trans e;exact zF.mk (K:=K) ⟨⟨p.n.H,{p.n.s with heap:=h'},p.n.R.other _ p.nD (cK K.R f.newD) hs,p.n.x.step (ws:=[D]) (λa m=>cI m▸f.newD) λa o e n=>k a o e λz=>n (z▸rT)⟩,p.ρ,p.ag,
  ⟨p.hb.frame,p.hb.kind,p.hb.knd,p.hb.glob,p.hb.blt,p.hb.off,p.hb.new,by
   cases p.hb.ns with
   |mk m e q=>exact⟨m,e.sameBut hs (b8 f.dc),q⟩,λy i e q=>by
   cases p.hb.cells y i e q with
   |mk a v' e1 e2 e3 e4 e5=>exact⟨a,v',e1,e2,e3,e4.sameBut hs λz=>Xy p.l (z▸e4),e5⟩⟩,
  p.I.keep λa ha o e=>k a o e λz=>f.da (z▸ha),hl,p.nD⟩ r
inductive qx(K:Kt c)(C D:Addr)(Q:dm):bW
 |mk (n:Nx K.toPt) (zs m):n.s.heap.PlainList D zs->zs.size<=aq->n.H D=none->n.s.heap.Ns C m->n.H C=none->dj (.list (zs.toList.map er)) n.H Q->qx K C D Q n.s
def Cp.fin(f:Cf K dB ads D)(p:Cp K c' dB tg bD it ads D i ys){r:bq}(h:w8 p.k ads r s3){Q:dm}(q:dj (.list (ys.toList.map er)) p.n.H Q)(l:ys.size<=aq):r=none/\qx K dB.locals D Q s3:=by
 obtain⟨e,h',rfl,k⟩:=h;have b:=(Kt.ap (K:=p.k) p.I.off p.n.s.toks k).hb
 cases b.ns with
 |mk m nm _=>exact⟨e,qx.mk (K:=K) ⟨p.n.H,{p.n.s with heap:=h'},(Kt.ap (K:=p.k) p.I.off p.n.s.toks k).R,p.n.x.step (ws:=ads) (λa m=>f.new a (.tail _ m)) k⟩ ys m (p.l.imp λn e=>k D _ e f.da) l p.nD nm b.off q⟩
inductive Rz(K:Kt c)(c':Sc)(dB:Env)(tg:aC)(bD:Src)(it:Addr)(ads:bJ)(D:Addr)(J:Nat->ai->bA)(n:Nat):bW
 |mk (k:Nat) (zs:Array Value) (p:Cp K c' dB tg bD it ads D k zs):n+k=bD.len->J k (zs.toList.map er) p.n.H->Rz K c' dB tg bD it ads D J n p.n.s
def Xz(K:Kt c)(c':Sc)(dB:Env)(tg:aC)(bD:Src)(it:Addr)(ads:bJ)(D:Addr)(J:Nat->ai->bA)(n:Nat)(s:Shared):Prop:=∃m,m<n/\Rz K c' dB tg bD it ads D J m s
def Cp.inv{J:Nat->ai->bA}{n:Nat}(p:Cp K c' dB tg bD it ads D (i+1) ys)(hn:n+i=bD.len)(hl:i<bD.len)(j:J (i+1) (ys.toList.map er) p.n.H):Xz K c' dB tg bD it ads D J n p.n.s:=⟨n-1,(oM hn hl).1,.mk _ _ p (oM hn hl).2 j⟩
end
def noX{K:Pt}{α:Type}{t:Sem α}{Q:α->bW}{s':Shared}{E:gp}(h:wpAny K.F.M K.A t Q (K.Exc λj=>False) s'):wpAny K.F.M K.A t Q E s':=
 aJ h (λj j q=>q) λj j q=>by cases q with|mk _ f=>exact f.elim
section
variable{c:Sc}{K:Kt c}{ns:aF}{tg:aC}{one:Bool}{sc:Scope}{target iter fp:Expr}{jF:List Expr}{iu cond:E}{bD:Src}{it:Addr}{ads:bJ}{Q:dm}
def CY{dB:Env}{D:Addr}{i:Nat}{ys:Array Value}{p:Cp K (c.kN ns tg sc) dB tg bD it ads D i ys}{s3:Shared}{J:Nat->ai->bA}{n:Nat}(f:Cf K dB ads D)(ie:SE (c.kN ns tg sc) iu fp)(ic:SF (c.kN ns tg sc) cond jF)
  (hn:n+i=bD.len) (mP:i<bD.len) (ysz:ys.size<=sizeLine)
  (h:j4 p.k bD it ads (i+1) (λρ2=>eB K.sp K.F.tb ρ2 cond p.n.H (λv h2=>dh v λb=>mO b (eB K.sp K.F.tb ρ2 iu h2 (λw h3=>J (i+1) (ys.toList.map er++[w]) h3) λj=>False) (J (i+1) (ys.toList.map er) h2)) (λj=>False)/\Agree tg ρ2 K.ρ) s3):
  FJ K.F.M K.A fp jF (.ref D) dB (Xz K (c.kN ns tg sc) dB tg bD it ads D J n) s3:=by
 cases Cp.turned (R:=λρ2 h=>eB K.sp K.F.tb ρ2 cond h (λv h2=>dh v λb=>mO b (eB K.sp K.F.tb ρ2 iu h2 (λw h3=>J (i+1) (ys.toList.map er++[w]) h3) λj=>False) (J (i+1) (ys.toList.map er) h2)) λj=>False) f p h with
 |mk p1 w=>
  refine noX (K:=p1.n.p) (p1.k.mono (ic p1.k _ _ w) (λok m w=>?_) λj j q=>q)
  cases ok with
  |false=>exact(p1.ev f m).inv hn mP w|true=>
   refine noX (K:=(p1.ev f m).n.p) ((p1.ev f m).k.mono (ie (p1.ev f m).k _ _ w) (λx m2 w=>?_) λj j q=>q);exact wpAny_list_append_plain (((p1.ev f m).ev f m2).l) (λh' hl hs=>(Cp.app (R:=λj h=>J (i+1) ((ys.push x).toList.map er) h) f ((p1.ev f m).ev f m2) hl hs (by rw[Array.toList_push,bM];exact w)).elim λp4 w=>p4.inv hn mP w) ysz
def pF.abB{c:Sc}(ht:pF c target tg one)(e:one=true):tg.length=1:=by
 cases ht with
 |one=>rfl|many=>exact iM e
def CZ{c:Sc}{K:Kt c}{i:Nat}{P:aS->Prop}{acc:Value}{R G:bW}{r:bq}{s5:Shared}(h:Turn K bD it ads i target P O8 r s5)(k:∀s7,j4 K bD it ads i P s7->FJ K.F.M K.A fp jF acc K.env G s7):FK K.F.M K.A fp target jF (.ref it) acc K.env R G r s5:=by
 obtain⟨v,rfl,h⟩:=h;exact aJ h (λj s6 h6=>aJ h6 (λj s7 h7=>k s7 h7) λj j q=>q) λj j q=>q
def C0{M:Model}{A:Around}{it acc:Value}{env:Env}{R G:bW}{r:bq}{s5:Shared}{P:bW}(h:r=none/\P s5)(k:P s5->R s5):FK M A fp target jF it acc env R G r s5:=by
 obtain⟨rfl,h⟩:=h;exact k h
def C3{dB:Env}{D:Addr}{pos:Pos}{p:Cp K (c.kN ns tg sc) dB tg bD it ads D 0 #[]}{J:Nat->ai->bA}(o:tA c ns tg sc)(ht:pF (c.kN ns tg sc) target tg one)(f:Cf K dB ads D)(ie:SE (c.kN ns tg sc) iu fp)(ic:SF (c.kN ns tg sc) cond jF)
  (j0:J 0 [] p.n.H) (j1:∀i acc h',J i acc h'->bD.here h'/\acc.length<aq)
  (step:∀i acc h',i<bD.len->J i acc h'->bD.take K.ρ tg one h' i λρ'=>eB K.sp K.F.tb ρ' cond h' (λv h2=>dh v λb=>mO b (eB K.sp K.F.tb ρ' iu h2 (λw h3=>J (i+1) (acc++[w]) h3) λZ=>False) (J (i+1) acc h2)) λZ=>False)
  (fin:∀acc h',J bD.len acc h'->dj (.list acc) h' Q) {RR:A1} (XA:∀s',qx K dB.locals D Q s'->RR (.ok .next) s'):
  codeAny K.F.M K.A (.compLoop (.ListComp fp [⟨target,iter,jF,0⟩] sc pos) 0 (.ref it) (.ref D) dB) RR p.n.s:=by
 refine vm (Rz K (c.kN ns tg sc) dB tg bD it ads D J) (λn s4 h4=>?_) bD.len (.mk 0 #[] p (Nat.add_zero _) j0)
 cases h4 with
 |mk i ys p hn j=>
  have l:=(j1 i _ _ j).2;rw[au,cL]at l;by_cases mP:i<bD.len
  ·exact aJ (Fm (K:=p.k) o.inj ht p.I mP (j1 i _ _ j).1 (zC ht.abB (step i _ p.n.H mP j) p.ag)) (λr s5 h5=>CZ h5 λs7 h7=>CY f ie ic hn mP (cM l) h7) λe s' q=>q
  ·cases Be hn mP;exact aJ (O7 (K:=p.k) p.I rfl (j1 _ _ _ j).1) (λr s5 h5=>C0 (p.fin f h5 (fin _ _ j) (cM l)) (XA _)) λe s' q=>q
@[reducible] def Cp.start{n2:Nx K.toPt}{C D:Addr}{h₁:Heap}(tk:Nat)(o:tA c ns tg sc)(I:ju K.F bD it 0 ads n2.H n2.s.heap)(old:∀b ob,n2.s.heap.get? b=some ob->h₁.get? b=some ob)(tC:n2.s.heap.get? C=none)(newD:n2.s.heap.get? D=none)(yZ:h₁.Ns C λj=>none)(hl:h₁.PlainList D #[]):
  Cp K (c.kN ns tg sc) (compEnvC sc (pH K.env sc.names []) C K.env) tg bD it ads D 0 #[]:=
 ⟨⟨n2.H,{n2.s with heap:=h₁,toks:=tk},n2.R.more tk old,n2.x.trans (.more _ old)⟩,clean K.ρ tg,lU.symm,CX o (K.at n2).hb old yZ (n2.R.fresh tC) (cK n2.R tC),I.keep λa j ob e=>old a ob e,hl,n2.R.fresh newD⟩
def C4{n2:Nx K.toPt}(o:tA c ns tg sc){Ex:gp}{P:Value->Env->bW}
  (k:∀C D h₁,C≠D->n2.s.heap.get? C=none->n2.s.heap.get? D=none->(∀b ob,n2.s.heap.get? b=some ob->h₁.get? b=some ob)->h₁.Ns C (λj=>none)->h₁.PlainList D #[]->P (.ref D) (compEnvC sc (pH K.env sc.names []) C K.env) {n2.s with heap:=h₁,toks:=n2.s.toks+0}):
  wpAny K.F.M K.A (newList []) (λacc s₃=>wpAny K.F.M K.A (newFunctionEnv sc K.env.globals (pH K.env sc.names []) [] K.env.qual none .none (some K.env)) (λdB=>P acc {dB with scope:=relabel sc K.env}) Ex s₃) Ex n2.s:=by
 have XC:∀x∈sc.names,x.2≠.cell:=λx hx e=>by
  have:=o.kind.2 x hx;rw[e]at this;exact this.elim nofun λz=>z.elim nofun nofun
 refine wpAny_newObj_type (wpAny_newFunctionEnv XC (λy hy=>qP hy) (λh₁ RA FO=>?_) o.kind.1);have XD:(n2.s.heap.push {cls:=.type "list",dict:=none,data:=.seq ([]:ai).toArray}).get? n2.s.heap.objs.size=some {cls:=.type "list",dict:=none,data:=.seq ([]:ai).toArray}:=fa _ rfl;have abC:∀b ob,n2.s.heap.get? b=some ob->(n2.s.heap.push {cls:=.type "list",dict:=none,data:=.seq ([]:ai).toArray}).get? b=some ob:=λb ob e=>cU _ e;have hC:(n2.s.heap.push {cls:=.type "list",dict:=none,data:=.seq ([]:ai).toArray}).objs.size=n2.s.heap.objs.size+1:=Heap.size_push ..;have tC:n2.s.heap.get? (n2.s.heap.push {cls:=.type "list",dict:=none,data:=.seq ([]:ai).toArray}).objs.size=none:=nK (by rw[hC];exact Nat.le_succ _);have dc:n2.s.heap.objs.size≠(n2.s.heap.push {cls:=.type "list",dict:=none,data:=.seq ([]:ai).toArray}).objs.size:=by rw[hC];exact Nat.ne_of_lt (Nat.lt_succ_self _)
 exact k _ _ h₁ (b8 dc) tC (eW _) (λb ob e=>FO.extBut b ob (λz=>aI tC (z▸e)) (cU _ (abC b ob e))) RA ⟨_,FO.extBut _ _ dc (cU _ XD)⟩
def C5{pos:Pos}{n2:Nx K.toPt}(o:tA c ns tg sc)(ht:pF (c.kN ns tg sc) target tg one)(ie:SE (c.kN ns tg sc) iu fp)(ic:SF (c.kN ns tg sc) cond jF)(new:∀a∈ads,K.s.heap.get? a=none)(I:ju K.F bD it 0 ads n2.H n2.s.heap)
  (w:qV bD K.ρ tg one (λρ' h' P=>eB K.sp K.F.tb ρ' cond h' P λj=>False) (λρ' h' P=>eB K.sp K.F.tb ρ' iu h' P λj=>False) n2.H Q)
  {RR:Value->Addr->A1} {Ex:gp} (XA:∀C D s',C≠D->K.s.heap.get? C=none->K.s.heap.get? D=none->qx K C D Q s'->RR (.ref D) C (.ok .next) s'):
  wpAny K.F.M K.A (newList []) (λacc s₃=>wpAny K.F.M K.A (newFunctionEnv sc K.env.globals (pH K.env sc.names []) [] K.env.qual none .none (some K.env)) (λdB s₄=>
   codeAny K.F.M K.A (.compStart (.ListComp fp [⟨target,iter,jF,0⟩] sc pos) 0 (.ref it) acc {dB with scope:=relabel sc K.env}) (RR acc dB.locals) s₄) Ex s₃) Ex n2.s:=by
 cases w with
 |mk J j0 j1 step fin=>
  refine C4 (P:=λacc dB s₄=>codeAny K.F.M K.A (.compStart (.ListComp fp [⟨target,iter,jF,0⟩] sc pos) 0 (.ref it) acc dB) (RR acc dB.locals) s₄) o λC D h₁ cd tC newD old yZ hl=>?_;have nc:=gw n2.R n2.x tC;have nd:=gw n2.R n2.x newD;have f:Cf K (compEnvC sc (pH K.env sc.names []) C K.env) ads D:=⟨λa m=>(fY m).elim (λz=>by rw[z];exact nc) (new a),nd,b8 cd,λm=>by cases I.off D m with|mk ob vs _ _ g _=>exact aI newD g⟩
  have loop:=C3 (p:=Cp.start (n2.s.toks+0) o I old tC newD yZ hl) (pos:=pos) (iter:=iter) o ht f ie ic j0 j1 step fin (λs' z=>XA C D s' cd nc nd z);exact codeAny_compStart_list loop (KN (K:=(Cp.start (n2.s.toks+0) o I old tC newD yZ hl).k) (Cp.start (n2.s.toks+0) o I old tC newD yZ hl).I loop)
def ug{pos:Pos}(o:tA c ns tg sc)(ht:pF (c.kN ns tg sc) target tg one)(ie:SE (c.kN ns tg sc) iu fp)(ic:SF (c.kN ns tg sc) cond jF){r:Value}{s2:Shared}
  (h:Made K.toPt (λbD h=>qV bD K.ρ tg one (λρ' h' P=>eB K.sp K.F.tb ρ' cond h' P λj=>False) (λρ' h' P=>eB K.sp K.F.tb ρ' iu h' P λj=>False) h Q) r s2)
  {RR:Value->Addr->A1} {Ex:gp} (XA:∀C D s',C≠D->K.s.heap.get? C=none->K.s.heap.get? D=none->qx K C D Q s'->RR (.ref D) C (.ok .next) s'):
  wpAny K.F.M K.A (newList []) (λacc s₃=>wpAny K.F.M K.A (newFunctionEnv sc K.env.globals (pH K.env sc.names []) [] K.env.qual none .none (some K.env)) (λdB s₄=>
   codeAny K.F.M K.A (.compStart (.ListComp fp [⟨target,iter,jF,0⟩] sc pos) 0 r acc {dB with scope:=relabel sc K.env}) (RR acc dB.locals) s₄) Ex s₃) Ex s2:=by
 cases h with
 |mk bD ia ads H2 _ w R2 x2 I2 new=>exact C5 (n2:=⟨H2,s2,R2,x2⟩) o ht ie ic new I2 w XA
end
def Rel.join{P base os H}{s:Shared}(R:Rel P base os H s){a:Addr}{ys:Array Value}(e:s.heap.PlainList a ys)(hb:base.get? a=none)(hl:ys.size<=aq):Rel P base os (H.set a (.list (ys.toList.map er))) s:=
 ⟨λb m q=>(Hp.jY q).elim (λz=>by rw[z.1,<-z.2];exact⟨ys,e,rfl,by rw[au,cL];exact hl⟩) λz=>R.objs b m z.2,λb m q mm=>(Hp.jY q).elim (λz=>by rw[z.1];exact hb) λz=>R.own b m z.2 mm,R.stays,R.gens,R.os⟩
def Ext.join{FA:bJ}{H H':Hp}{h h':Heap}(x:Ext FA H h H' h'){a:Addr}{o:MO}(n:H' a=none)(l:h.get? a=none):Ext FA H h (H'.set a o) h':=
 ⟨x.rest,λb m e q=>(Hp.bj λz=>aI (z▸n) (x.same b m e q)).trans (x.same b m e q),λb e=>Hp.qE (x.ym b e),λb e=>(Hp.qF e).elim (λz=>.inr (z▸l)) (x.fresh b)⟩
section
variable{c:Sc}{K:Kt c}{C D:Addr}{Q:dm}{s':Shared}{iV:Heap}
def qx.nx(cd:C≠D)(nc:K.s.heap.get? C=none)(nd:K.s.heap.get? D=none)(f:qx K C D Q s'):∃m,s'.heap.Ns C m/\∀iV,Heap.SameBut C s'.heap iV->∃n:Nx K.toPt,n.s={s' with heap:=iV}/\Q (.ref D) n.H:=by
 cases f with
 |mk n zs m l hl nD nm nC q=>exact⟨m,nm,λiV hs=>⟨⟨n.H.set D (.list (zs.toList.map er)),{n.s with heap:=iV},Rel.join (n.R.other _ nC (cK K.R nc) hs) (l.imp λk e=>(hs.2 D (b8 cd)).trans e) (cK K.R nd) hl,
   (n.x.step (ws:=[C]) (λa m=>cI m▸nc) λa o e z=>(hs.2 a λy=>z (y▸rT)).trans e).join nD nd⟩,rfl,q D nD⟩⟩
end
section
variable{c:Sc}{ns:aF}{tg:aC}{one:Bool}{sc:Scope}{target iter fp:Expr}{jF:List Expr}{it iu cond:E}{p q tp:Pos}{n:Str}{i:Nat}
def qx.free{K:Kt c}{C D:Addr}{Q:dm}{s':Shared}(cd:C≠D)(nc:K.s.heap.get? C=none)(nd:K.s.heap.get? D=none)(f:qx K C D Q s'):∃m,s'.heap.Ns C m/\∀iV,Heap.SameBut C s'.heap iV->K.fk (Er Q) (.ref D) {s' with heap:=iV}:=(f.nx cd nc nd).imp λm z=>⟨z.1,λiV hs=>(z.2 iV hs).elim λn y=>by rw[<-y.1];exact⟨n.H,y.2,n.R,n.x⟩⟩
def tA.locals(o:tA c ns tg sc):∀x∈sc.names,x.2=.local->sc.names.lookup x.1=some .local:=λx hx e=>eQ o.nd (by rw[<-e];exact hx)
def RB(o:tA c ns tg sc)(ht:pF (c.kN ns tg sc) target tg one)(fd:∀env v,foldedSetIterable iter env v=pure v)(ii:SI c it iter)(ic:SF (c.kN ns tg sc) cond jF)(ie:SE (c.kN ns tg sc) iu fp):SE c (.comp iu tg one it cond) (.ListComp fp [⟨target,iter,jF,0⟩] sc p):=λK Q X w=>by
 rw[eval_ListComp];refine wpAny_comprehension_free (use:=none) rfl (fd K.env) (qa o K.hb) o.kind.1 o.locals ?_;exact aJ (ii K _ X w) (λv s1 h1=>aJ h1 (λr s2 h2=>ug o ht ie ic h2 λC D s' cd nc nd z=>z.free cd nc nd) λj j q=>q) λj j q=>q
def qx.mid{K:Kt c}{C D:Addr}{Q:dm}{s':Shared}(cd:C≠D)(nd:K.s.heap.get? D=none)(f:qx K C D Q s'):∃(m:Str->bq)(n:Nx K.toPt),n.s=s'/\Q (.ref D) n.H/\s'.heap.Ns C m/\n.H C=none:=by
 cases f with
 |mk n zs m l hl nD nm nC q=>exact⟨m,⟨n.H.set D (.list (zs.toList.map er)),n.s,Rel.join n.R l (cK K.R nd) hl,n.x.join nD nd⟩,rfl,q D nD,nm,(Hp.bj cd).trans nC⟩
def Nb.free{K:Kb c}(n:Nb K){C:Addr}{iV:Heap}(nc:K.s.heap.get? C=none)(nH:n.H C=none)(no:C∉own K.env)(hs:Heap.SameBut C n.s.heap iV){α:Type}{P:α->qC}{u:α}(q:P u n.ρ n.H):K.fk P u {n.s with heap:=iV}:=
 ⟨n.ρ,n.H,q,n.R.other _ nH (cK K.R nc) hs,n.x.step (ads:=[C]) (λa m=>cI m▸nc) (λa o e z j=>(hs.2 a λy=>z (y▸rT)).trans e) (λa ha o e=>⟨o,(hs.2 a λy=>no (y▸ha)).trans e,id⟩),
  ⟨n.hb.frame,n.hb.kind,n.hb.knd,n.hb.glob,n.hb.blt,n.hb.off,n.hb.new,by
   cases n.hb.ns with
   |mk m e q=>exact⟨m,e.sameBut hs λz=>no (z▸.head _),q⟩,λy i e q=>by
   cases n.hb.cells y i e q with
   |mk a v' e1 e2 e3 e4 e5=>exact⟨a,v',e1,e2,e3,e4.sameBut hs λz=>no (z▸oH e1),e5⟩⟩⟩
def C6{K:Kb c}(h1:c.names.lookup n=some .local)(h2:tp.line=p.line)(h3:(sc.names.any λq=>q.1==n&&(q.2==.local||q.2==.cell))=false){l:Nat}{gens:List Comprehension}:swapsWith (.ListComp fp gens sc p) (some (.Name n tp)) l K.env=pure true:=by
 have b:K.env.blockKind=.function:=by unfold Env.blockKind;rw[K.hb.kind];rfl
 unfold swapsWith;show(pure (K.env.blockKind==.function&&K.env.kindOf n==some .local&&tp.line==p.line&& !(sc.names.any λq=>q.1==n&&(q.2==.local||q.2==.cell))):Sem Bool)=_
 rw[b,(K.hb.knd n _ h1).1 rfl,h2,h3,cW,cW,cW];rfl
def FP{K:Kb c}{C D:Addr}{s':Shared}{Q:lM}{X:bA}(h1:c.names.lookup n=some .local)(h0:eP n=true)(hi:c.im.lookup n=some i)
  (z:∃(m:Str->bq)(nx:Nx K.toPt),nx.s=s'/\Q (.next (K.ρ.set i (some (.ref D)))) nx.H/\s'.heap.Ns C m/\nx.H C=none) (nc:K.s.heap.get? C=none):
  wpAny K.F.M K.A (do standAt tp;bindName K.env n (.ref D)) (λj s2=>∃m,s2.heap.Ns C m/\∀iV,Heap.SameBut C s2.heap iV->K.fk (Fw Q) .next {s2 with heap:=iV}) (K.Exc X) s':=by
 obtain⟨m,nx,rfl,q,nm,nC⟩:=z;have no:C∉own K.env:=λz=>(K.ho C z).2.elim λo y=>aI nc y.1;refine ae (fb ((K.at (K.ne nx)).mono (Ba (Q:=λj ρ h=>Q (.next ρ) h/\h=nx.H) (X:=X) (Fc h1 h0) hi ⟨q,rfl⟩) (λj n3 w3=>?_) λj j q=>(K.ne nx).exc q));exact⟨m,n3.x.ns nm nC no,λiV hs=>Nb.free (K:=K) ((K.ne nx).trans n3) nc (by show n3.H C=none;rw[w3.2];exact nC) no hs (P:=Fw Q) (u:=.next) w3.1⟩
def KS(h1:c.names.lookup n=some .local)(h0:eP n=true)(hi:c.im.lookup n=some i)(h2:tp.line=p.line)(h3:(sc.names.any λq=>q.1==n&&(q.2==.local||q.2==.cell))=false)(o:tA c ns tg sc)(ht:pF (c.kN ns tg sc) target tg one)(fd:∀env v,foldedSetIterable iter env v=pure v)(ii:SI c it iter)(ic:SF (c.kN ns tg sc) cond jF)(ie:SE (c.kN ns tg sc) iu fp):
  SS c (.assign (.name i) (.comp iu tg one it cond)) (.Assign [.Name n tp] (.ListComp fp [⟨target,iter,jF,0⟩] sc p) q):=λK lo Q X w=>by
 rw[show K.W (exec (.Assign [.Name n tp] (.ListComp fp [⟨target,iter,jF,0⟩] sc p) q) K.env) (Fw Q) X=K.W _ (Fw Q) X from ak (λt=>K.W t (Fw Q) X) (exec_Assign_Name_used _ _ _ _ (C6 h1 h2 h3))];refine ae (fb (ae ?_))
 show wpAny K.F.M K.A (do let _<-comprehension (.ListComp fp [⟨target,iter,jF,0⟩] sc p) sc K.env _ (newList []) false (eval iter K.env) (some (assign (.Name n tp) K.env))) _ _ _
 refine ae (aJ (wpAny_comprehension_free (use:=some (assign (.Name n tp) K.env)) (Q:=λj s'=>K.fk (Fw Q) .next s') rfl (fd K.env) (qa o K.hb) o.kind.1 o.locals ?_) (λj s' hq=>ax (ax hq)) λj j q=>q);exact aJ (ii K.toKt _ X w) (λv s1 g1=>aJ g1 (λr s2 g2=>ug o ht ie ic g2 λC D s' cd nc nd z=>FP (X:=X) h1 h0 hi (z.mid cd nd) nc) λj j q=>K.E8 q) λj j q=>K.E8 q
end
section
variable{prog:Program}{w:World}{K:Type}[DecidableEq K]{knd:KeyKind prog w K}{A:Around}{E:gp}{s:Shared}
def xa{α:Type}{p:α->Bool}{l:List α}{i:Nat}(h:l.findIdx? p=some i):∃x,l[i]? =some x/\p x=true:=by
 obtain⟨a,b,_⟩:=List.findIdx?_eq_some_iff_getElem.mp h;exact⟨l[i],bN a,b⟩
def size_le{es:Array DictEntry}{kvs:List (K×Value)}(e:es.toList.length=kvs.length)(h:kvs.length<=sizeLine):es.size<=sizeLine:=by rw[<-cL,e];exact h
def KU{kvs:List (K×Value)}{k:K}{v:Value}(hn:(kvs.map (·.1)).Nodup)(O3:k∉kvs.map (·.1)):((kvs++[(k,v)]).map (·.1)).Nodup:=by
 rw[bM];exact List.nodup_append.mpr ⟨hn,List.nodup_cons.mpr ⟨dS,.nil⟩,λa ha b hb e=>O3 (by rw[e,cI hb]at ha;exact ha)⟩
def oN{d:Addr}{kvs:List (K×Value)}{k:K}{key v:Value}{Q:Jo}(C7:knd.is k key=true)(hm:s.heap.DictOf knd d kvs)(O3:k∉kvs.map (·.1))
  (hQ:∀h',h'.DictOf knd d (kvs++[(k,v)])->Heap.SameBut d s.heap h'->Q () {s with heap:=h'})
  (hsz:kvs.length<=sizeLine):
  wpAny (model prog w) A (dictPut d (knd.hash k) key v) Q E s:=by
 obtain⟨o,es,ep,ho,hc,hd,hk,hp,hn⟩:=hm;unfold dictPut;refine ae (wpAny_dictFind_of C7 ho hd hk ?_);have abD:(es.findIdx? λe=>knd.is k e.key)=none:=by
  have e:(es.findIdx? λe=>knd.is k e.key)=kvs.findIdx? λkv=>decide (kv.1=k):=by rw[<-hp.findIdx k];obtain⟨l⟩:=es;exact List.findIdx?_toArray ..
  rw[e];cases hi:kvs.findIdx? λkv=>decide (kv.1=k)with
  |none=>rfl|some i=>
   obtain⟨x,hx,he⟩:=xa hi;exact absurd (jb ⟨x,List.mem_of_getElem? hx,cf he⟩) O3
 rw[abD];refine wpAny_updateDictKeys (hz:=size_le hp.length hsz) ho hd (hQ _ ⟨_,_,ep+1,Heap.get?_update_self _ ho (Obj.isFreed_of_dict (Obj.data_mapDictKeys hd _)),
  hc.mapDictKeys _,Obj.data_mapDictKeys hd _,hk.push C7 _,?_,KU hn O3⟩ (Heap.SameBut.update ..))
 rw[Array.toList_push];exact hp.append C7 (knd.hash k) v
def zG{x i m:Nat}{rest:aC}(h:x::rest=List.range' i (m-i)):x=i/\i<m/\rest=List.range' (i+1) (m-(i+1)):=by
 rcases Nat.lt_or_ge i m with l|l
 ·have e:m-i=(m-(i+1))+1:=(Nat.succ_pred_eq_of_pos (Nat.sub_pos_of_lt l)).symm;rw[e,List.range'_succ]at h;exact⟨(List.cons.inj h).1,l,(List.cons.inj h).2⟩
 ·rw[Nat.sub_eq_zero_of_le l]at h;cases h
def C8{i m:Nat}(h:[]=List.range' i (m-i))(l:i<=m):i=m:=by
 rcases Nat.lt_or_ge i m with l'|l'
 ·rw[(Nat.succ_pred_eq_of_pos (Nat.sub_pos_of_lt l')).symm,List.range'_succ]at h;cases h
 ·exact Nat.le_antisymm l l'
def C9{kvs more:List (K×Value)}(hnd:((kvs++more).map (·.1)).Nodup){i:Nat}{kv:K×Value}(h:more[i]? =some kv):more.take (i+1)=more.take i++[kv]/\kv.1∉(kvs++more.take i).map (·.1):=by
 have hsp:more.take (i+1)=more.take i++[kv]:=by rw[List.take_add_one,h];rfl
 refine⟨hsp,λhm=>?_⟩;have e:kvs++more=kvs++more.take i++(kv::more.drop (i+1)):=by
  have:=List.take_append_drop (i+1) more;rw[hsp,aQ]at this;rw[aQ];exact ak (kvs++·) this.symm
 rw[e,bM]at hnd;exact(List.nodup_append.mp hnd).2.2 _ hm _ (.head _) rfl
inductive XE(knd:KeyKind prog w K)(s:Shared)(d o:Addr)(oo:Obj)(kvs more:List (K×Value))(m:Nat)(rest:aC):bW
 |mk (h' i):rest=List.range' i (m-i)->i<=m->h'.DictOf knd d (kvs++more.take i)->h'.get? o=some oo->Heap.SameBut d s.heap h'->XE knd s d o oo kvs more m rest {s with heap:=h'}
def nS{d o:Addr}{kvs more:List (K×Value)}{Q:Jo}(hdo:d≠o)(hoS:(o==sysModules)=false)(hd:s.heap.DictOf knd d kvs)(ho:s.heap.DictOf knd o more)(h0:kvs≠[])
  (hnd:((kvs++more).map (·.1)).Nodup) (hsz:kvs.length+more.length<=sizeLine)
  (hQ:∀h',h'.DictOf knd d (kvs++more)->Heap.SameBut d s.heap h'->Q () {s with heap:=h'}):
  wpAny (model prog w) A (mergeMapping d (.ref o) false) Q E s:=by
 obtain⟨od,esd,epd,hod,_,hdd,_,hpd,_⟩:=id hd;obtain⟨oo,Jr,epo,hoo,_,KW,hko,hpo,_⟩:=id ho;unfold mergeMapping;refine ae (wpAny_isInstance ho.typeIs isSubtype_dict_dict ?_);rw[av rfl];refine ae (wpAny_specialOf ho.typeIs F.slot_dict_iter.lookup ?_);simp only[cW];refine ae (ax ?_)
 dsimp only
 rw[aB (by rw[hoS];exact c8)];have zH:more.length=Jr.size:=hpo.length.symm.trans cL;have yn:esd.isEmpty=false:=by
  cases he:esd.isEmpty with
  |false=>rfl|true=>
   have:=hpd.length;rw[Array.isEmpty_iff.mp he]at this;exact absurd (List.length_eq_zero_iff.mp this.symm) h0
 refine ae (wpAny_dictEntries hod hdd ?_);rw[yn,aB c8];refine ae (wpAny_dictEntries hoo KW (ae (wpAny_dictEpoch hoo KW ?_)));refine ae ?_;refine wpAny_forIn_list _ (λrest j s'=>XE knd s d o oo kvs more Jr.size rest s') _ ?_ ?_ (List.range Jr.size) _ (.mk s.heap 0 List.range_eq_range' (bO _) (by rw[List.take_zero,c9];exact hd) hoo (Heap.SameBut.refl _ _))
 ·intro x rest b s' hi
  cases hi with
  |mk h' i hr hi A4 RC hs'=>
   obtain⟨rfl,mP,wB⟩:=zG hr;refine ae (wpAny_dictEntries RC KW ?_);rw[Array.getElem?_eq_getElem mP];obtain⟨kv,O4⟩:∃kv,more[x]? =some kv:=⟨_,bN (by rw[zH];exact mP)⟩
   obtain⟨hsp,hnk⟩:=C9 hnd O4;obtain⟨C7,abE⟩:=hpo.get? (e:=Jr[x]) (by rw[Array.getElem?_toList];exact Array.getElem?_eq_getElem mP) O4;obtain⟨k',XF,XG⟩:=hko Jr[x] (Array.getElem_mem mP);cases knd.inj _ _ _ XF C7
   show wpAny _ _ (holding [Jr[x].key,Jr[x].val] (dictPut d Jr[x].hash Jr[x].key Jr[x].val)>>=_) _ _ _
   rw[XG,abE];refine ae (bF (oN C7 A4 hnk (λiV KX XH=>?_) (by rw[aE,List.length_take];exact aa (bc (Nat.min_le_right _ _) _) hsz)));have O9:iV.get? o=some oo:=(XH.2 o (b8 hdo)).trans RC;refine ae (wpAny_dictEpoch O9 KW ?_);rw[aB (by rw[bne_self_eq_false];exact c8)];exact ax (.mk iV (x+1) wB mP (by rw[hsp,<-aQ];exact KX) O9 (hs'.trans XH))
 ·intro b s' hi
  cases hi with
  |mk h' i hr hi A4 RC hs'=>
   rw[C8 hr hi,<-zH,List.take_length]at A4;exact ax (hQ h' A4 hs')
end
noncomputable abbrev Fix.Dc(F:Fix):PySem.KeyKind F.prog F.w Str:=strKind F.prog F.w
abbrev KV:=cC
noncomputable abbrev keysOf(kvs:KV):aF:=kvs.map (·.1)
abbrev iJ(kvs:KV):ai:=kvs.map λp=>er p.2
inductive DS(c:Sc)(m2:E)(gc:List (Option Expr))(sW:List Expr):aF->E->List (Option Expr)->List Expr->Prop
 |nil:DS c m2 gc sW [] m2 gc sW
 |cons (k kk kp e y ks es keys xs):SE c e y->DS c m2 gc sW ks es keys xs->DS c m2 gc sW (k::ks) (.cons e es) (some (.Constant (.str k) kk kp)::keys) (y::xs)
abbrev DK(c:Sc):=DS c .nil [] []
section
variable{c:Sc}{m m2:E}{keys gc:List (Option Expr)}{xs sW:List Expr}{ks uh:aF}{n:Nat}
def DK.len(d:DK c ks m keys xs):ks.length=xs.length/\keys.all (·.isSome)=true/\keys.length=xs.length/\∀env pos,(pairTrees keys xs env pos).length=xs.length:=by
 induction d with
 |nil=>exact⟨rfl,rfl,rfl,λj j=>rfl⟩|cons k kk kp e y ks es keys xs _ _ ih=>exact⟨ak Nat.succ ih.1,ih.2.1,ak Nat.succ ih.2.2.1,λenv pos=>ak Nat.succ (ih.2.2.2 env pos)⟩
def DS.pairs(d:DS c m2 gc sW ks m keys xs)(env:Env)(pos:Pos):pairTrees keys xs env pos=(pairTrees keys xs env pos).take ks.length++pairTrees gc sW env pos/\((pairTrees keys xs env pos).take ks.length).length=ks.length:=by
 induction d with
 |nil=>exact⟨rfl,rfl⟩|cons k kk kp e y ks es keys xs _ _ ih=>exact⟨ak (_::·) ih.1,ak Nat.succ ih.2⟩
inductive Split(c:Sc)(n:Nat)(ks:aF)(m:E)(keys:List (Option Expr))(xs:List Expr):Prop
 |mk (FQ uh m2 gc sW):DS c m2 gc sW FQ m keys xs->DK c uh m2 gc sW->FQ.length=n->ks=FQ++uh->xs.length=n+sW.length->Split c n ks m keys xs
def DK.split:∀{ks:aF}{m:E}{keys:List (Option Expr)}{xs:List Expr},DK c ks m keys xs->n<=xs.length->Split c n ks m keys xs:=by
 induction n with
 |zero=>
  intro ks m keys xs d _;exact⟨[],ks,m,keys,xs,.nil,d,rfl,rfl,(cX _).symm⟩
 |succ n ih=>
  intro ks m keys xs d l
  cases d with
  |nil=>cases l|cons k kk kp e y ks es keys xs h d=>
   cases ih d (gE l)with
   |mk FQ uh m2 gc sW d1 d2 e1 e2 e3=>exact⟨k::FQ,uh,m2,gc,sW,.cons k kk kp e y FQ es keys xs h d1,d2,ak Nat.succ e1,ak (k::·) e2,by rw[List.length_cons,e3,Nat.succ_add]⟩
def xb{e:E}{y:Expr}(h:SE c e y){K:Kt c}{P:dm}{α:Type}{k:Str}{kk:Nat}{kp pos:Pos}{f:Value->Value->Sem α}{Q:α->bW}{Ex:gp}(w:K.wE e P λj=>False)
  (hk:∀t v (n:Nx K.toPt),P (er v) n.H->wpAny K.F.M K.A (f (.str k t) v) Q Ex n.s):
  wpAny K.F.M K.A (do let kv<-eval (.Constant (.str k) kk kp) K.env;let vv<-holding [kv] (do let x<-eval y K.env;standAt pos;pure x);f kv vv) Q Ex K.s:=by
 refine ae (wpAny_Constant_str ?_);exact ae (bF (ae (noX (K:=Nx.p (K:=K.toPt) ⟨K.H,{K.s with toks:=K.s.toks+1},K.R.toks _,.more _ λj j e=>e⟩) ((K.at ⟨K.H,{K.s with toks:=K.s.toks+1},K.R.toks _,.more _ λj j e=>e⟩).mono (h (K.at ⟨K.H,{K.s with toks:=K.s.toks+1},K.R.toks _,.more _ λj j e=>e⟩) P _ w) (λv n w=>ae (fb (ax (hk _ v (Nx.trans _ n) w)))) λj j q=>q))))
def zI{pos:Pos}:∀{ks:aF}{m:E}{keys:List (Option Expr)}{xs:List Expr},DK c ks m keys xs->∀(K:Kt c)(Q:ai->bA)(Ex:gp),fP K.sp K.F.tb K.ρ m K.H Q (λj=>False)->
  wpAny K.F.M K.A (evalPairs (pairTrees keys xs K.env pos)) (K.fk λvs h=>∃kvs,Carries K.F.Dc vs kvs/\keysOf kvs=ks/\Q (iJ kvs) h) Ex K.s:=by
 intro ks m keys xs d
 induction d with
 |nil=>exact λK Q Ex w=>evalPairs_nil (K.here ⟨[],trivial,rfl,w⟩)|cons k kk kp e y ks es keys xs h _ ih=>
  intro K Q Ex w
  show wpAny _ _ (evalPairs ((eval (.Constant (.str k) kk kp) K.env,do let x<-eval y K.env;standAt pos;pure x)::pairTrees keys xs K.env pos)) _ _ _
  rw[evalPairs];refine xb (kk:=kk) (kp:=kp) (f:=λkv vv=>do return(kv,vv)::(<-holding [kv,vv] (evalPairs (pairTrees keys xs K.env pos)))) h w λt v n w=>?_;refine ae (bF (aJ (ih (K.at n) (λvs h=>Q (er v::vs) h) Ex w) (λvs s' h=>ax ?_) λj j q=>q))
  cases h with
  |mk H' q R' x'=>
   obtain⟨kvs,hc,hk,q⟩:=q;exact n.post ⟨H',⟨(k,v)::kvs,⟨strKind_is K.F.prog K.F.w k t,rfl,hc⟩,by rw[<-hk];rfl,q⟩,R',x'⟩
inductive Dh(K:Pt)(d:Addr)(R:KV->bA):bW
 |mk (n:Nx K) (acc):n.s.heap.DictOf K.F.Dc d acc->n.H d=none->R acc n.H->Dh K d R n.s
def pI{K:Pt}{d:Addr}(ld:K.s.heap.get? d=none)(n:Nx K){acc:KV}(hd:n.s.heap.DictOf K.F.Dc d acc)(nd:n.H d=none)(m:Nx n.p):m.s.heap.DictOf K.F.Dc d acc/\m.H d=none:=by
 obtain⟨o,es,ep,ho,r⟩:=hd;exact⟨⟨o,es,ep,m.x.keep ho (d4 nd) (λq=>(K.hf.ow.mem q).2.elim λo z=>aI ld z.1),r⟩,m.x.off nd ho⟩
@[reducible] def Nx.put{K:Pt}(n:Nx K){d:Addr}{h':Heap}(tk:Nat)(ld:K.s.heap.get? d=none)(nd:n.H d=none)(hs:Heap.SameBut d n.s.heap h'):Nx K:=
 ⟨n.H,{n.s with heap:=h',toks:=tk},n.R.other tk nd (cK K.R ld) hs,n.x.step (ws:=[d]) (λa m=>cI m▸ld) λa o e z=>(hs.2 a λy=>z (y▸rT)).trans e⟩
def stored_new{acc:KV}{k:Str}{v:Value}(h:k∉keysOf acc):stored acc k v=acc++[(k,v)]:=by
 unfold stored;rw[aB];intro q;obtain⟨kv,O4,he⟩:=List.any_eq_true.mp q;exact h (jb ⟨kv,O4,cf he⟩)
def FR{pos:Pos}{K:Kt c}{d:Addr}(ld:K.s.heap.get? d=none){Ex:gp}:∀{ks:aF}{m:E}{keys:List (Option Expr)}{xs:List Expr},DS c m2 gc sW ks m keys xs->∀(n:Nx K.toPt)(acc:KV)(Q:ai->bA),n.s.heap.DictOf K.F.Dc d acc->n.H d=none->(keysOf acc++ks).Nodup->acc.length+ks.length<=sizeLine->
  fP K.sp K.F.tb K.ρ m n.H Q (λj=>False)->
  wpAny K.F.M K.A (forIn ((pairTrees keys xs K.env pos).take ks.length) PUnit.unit λ(x:Sem Value×Sem Value) (_:PUnit)=>(do
     let kv<-x.1
     let vv<-holding [kv] x.2
     holding [kv,vv] (dictSet d kv vv)
     pure (ForInStep.yield PUnit.unit):Sem (ForInStep PUnit)))
    (λj=>Dh K.toPt d λzJ h=>∃kvs,zJ=acc++kvs/\keysOf kvs=ks/\fP K.sp K.F.tb K.ρ m2 h (λvs h=>Q (iJ kvs++vs) h) (λj=>False)) Ex n.s:=by
 intro ks m keys xs d0
 induction d0 with
 |nil=>
  intro n acc Q hd nd _ _ w;exact ax ⟨n,acc,hd,nd,[],(c9 acc).symm,rfl,w⟩
 |cons k kk kp e y ks es keys xs h _ ih=>
  intro n acc Q hd nd hn hz w
  show wpAny _ _ (forIn ((eval (.Constant (.str k) kk kp) K.env,do let x<-eval y K.env;standAt pos;pure x)::(pairTrees keys xs K.env pos).take ks.length) _ _) _ _ _
  have O3:=List.nodup_append.mp hn;have nk:k∉keysOf acc:=λq=>O3.2.2 _ q _ (.head _) rfl;have z1:acc.length<=sizeLine:=aa (aW _ _) hz;rw[List.forIn_cons];refine ae (xb (K:=K.at n) (kk:=kk) (kp:=kp) (pos:=pos) (f:=λkv vv=>do holding [kv,vv] (dictSet d kv vv);pure (ForInStep.yield PUnit.unit)) h w λt v m w=>?_);have hm:=pI ld n hd nd m;refine ae (bF (wpAny_dictSet_pairs (knd:=K.F.Dc) (k:=k) (hsz:=z1) (strKind_is K.F.prog K.F.w k t) hm.1 λh' A4 hs=>ax ?_));rw[stored_new nk]at A4;refine aJ (ih (Nx.put (n.trans m) (m.s.toks+1) ld hm.2 hs) (acc++[(k,v)]) (λvs h=>Q (er v::vs) h) A4 hm.2 ?_ ?_ w) (λj s' h=>?_) λj j q=>q
  ·unfold keysOf at hn⊢;rw[bM,aQ];exact hn
  ·rw[aE,bf]
   show acc.length+(1+ks.length)<=_
   rw[fg 1];exact hz
  ·cases h with
   |mk n' zJ a b q=>
    obtain⟨kvs,e1,e2,q⟩:=q;exact⟨n',zJ,a,b,(k,v)::kvs,by rw[e1,aQ];rfl,by rw[<-e2];rfl,q⟩
end
def Left{c:Sc}(K:Kt c)(m2:E)(acc:KV)(ks:aF)(Q:ai->bA)(zJ:KV)(h:Hp):Prop:=∃kvs,zJ=acc++kvs/\keysOf kvs=ks/\fP K.sp K.F.tb K.ρ m2 h (λvs h=>Q (iJ kvs++vs) h) (λj=>False)
section
variable{c:Sc}{m m2:E}{keys gc:List (Option Expr)}{xs sW:List Expr}{ks:aF}{pos:Pos}{Ex:gp}
def RD{ks:aF}{m:E}{keys:List (Option Expr)}{xs:List Expr}(d:DS c m2 gc sW ks m keys xs)(e1:m2=.nil)(e2:gc=[])(e3:sW=[]):DK c ks m keys xs:=by subst e1;subst e2;subst e3;exact d
def Bg{K:Kt c}{Q:ai->bA}(d:DS c m2 gc sW ks m keys xs)(h15:ks.length<=15->m2=.nil/\gc=[]/\sW=[])(hz:ks.length<=sizeLine)(hn:ks.Nodup)(w:fP K.sp K.F.tb K.ρ m K.H Q (λj=>False)):
  wpAny K.F.M K.A (subDict ((pairTrees keys xs K.env pos).take ks.length)) (λd s'=>K.s.heap.get? d=none/\Dh K.toPt d (Left K m2 [] ks Q) s') Ex K.s:=by
 have pl:=(d.pairs K.env pos).2;have k1:∀b o,K.s.heap.get? b=some o->(K.s.heap.push {cls:=.type "dict",data:=.dict #[]}).get? b=some o:=λb o e=>cU _ e;have ld:K.s.heap.get? K.s.heap.objs.size=none:=eW _;have nd:=K.R.fresh ld;have new:(K.s.heap.push {cls:=.type "dict",data:=.dict #[]}).DictOf K.F.Dc K.s.heap.objs.size []:=Heap.DictOf.new _;have n1:∃n:Nx K.toPt,n.H=K.H/\n.s={K.s with heap:=K.s.heap.push {cls:=.type "dict",data:=.dict #[]}}:=⟨⟨K.H,_,K.R.more _ k1,.more _ k1⟩,rfl,rfl⟩
 obtain⟨n,eH,es⟩:=n1;have XI:n.s.heap.DictOf K.F.Dc K.s.heap.objs.size []:=by rw[es];exact new
 have nd':n.H K.s.heap.objs.size=none:=by rw[eH];exact nd
 rw[<-eH]at w;by_cases h:ks.length<=15
 ·obtain⟨e1,e2,e3⟩:=h15 h;have dk:=RD d e1 e2 e3;rw[List.take_of_length_le (by rw[dk.len.2.2.2,dk.len.1];exact aH _)];refine wpAny_subDict (knd:=K.F.Dc) (by rw[dk.len.2.2.2,<-dk.len.1];exact h) ?_;rw[<-es];refine aJ (zI dk (K.at n) Q Ex w) (λvs s' z=>?_) λj j q=>q
  cases z with
  |mk H' q R' x'=>
   obtain⟨kvs,hc,hk,q⟩:=q;have hm:=pI ld n XI nd' ⟨H',s',R',x'⟩;refine⟨kvs,hc,hm.1,λh' KX hs=>⟨ld,.mk (Nx.put (n.trans ⟨H',s',R',x'⟩) _ ld hm.2 hs) kvs ?_ hm.2 ⟨kvs,rfl,hk,by rw[e1];show Q (iJ kvs++[]) H';rw[c9];exact q⟩⟩⟩;rw[merged_nil_of_nodup kvs (by rw[show kvs.map (·.1)=ks from hk];exact hn)]at KX;exact KX
 ·unfold subDict;refine ae (wpAny_alloc (ae (bF ?_)));rw[aB (by rw[pl];exact h),<-es];exact ae (wpAny_rule (ae (aJ (FR ld d n [] Q XI nd' hn (by rw[List.length_nil,cX];exact hz) w) (λj s' z=>ax (ax ⟨ld,z⟩)) λj j q=>q)))
noncomputable def kO(run:List (Sem Value×Sem Value))(main:dz):Sem dz:=do
 if run.isEmpty then return main
 match main with
 |none=>return some (<-subDict run)|some d=>
  let sub<-holding [.ref d] (subDict run)
  (holding [.ref d,.ref sub] (mergeMapping d (.ref sub) false)).onRaise λx=>do let _<-holding [.ref d,x] (runValue (.builtin "proto.let_go" {}))
  return some d
inductive ji(K:Pt):dz->KV->(Hp->Prop)->bW
 |none (n:Nx K) (R):R n.H->ji K none [] R n.s
 |some (n:Nx K) (R) (d acc):K.s.heap.get? d=none->n.s.heap.DictOf K.F.Dc d acc->n.H d=none->acc≠[]->R n.H->ji K (some d) acc R n.s
def KY{kvs:KV}(e:keysOf kvs=ks)(h0:0<ks.length):kvs≠[]:=λz=>by
 rw[z]at e;rw[<-e]at h0;exact absurd h0 (Nat.lt_irrefl _)
def ui{K:Kt c}{main:dz}{acc:KV}{Q:ai->bA}{s:Shared}(d:DS c m2 gc sW ks m keys xs)(h15:ks.length<=15->m2=.nil/\gc=[]/\sW=[])(h0:0<ks.length)(hz:acc.length+ks.length<=sizeLine)(hn:(keysOf acc++ks).Nodup)
  (hm:ji K.toPt main acc (λh=>fP K.sp K.F.tb K.ρ m h Q (λj=>False)) s):
  wpAny K.F.M K.A (kO ((pairTrees keys xs K.env pos).take ks.length) main) (λr s'=>∃kvs,keysOf kvs=ks/\ji K.toPt r (acc++kvs) (λh=>fP K.sp K.F.tb K.ρ m2 h (λvs h=>Q (iJ kvs++vs) h) (λj=>False)) s') Ex s:=by
 have pl:=(d.pairs K.env pos).2;have yn:((pairTrees keys xs K.env pos).take ks.length).isEmpty=false:=by
  cases e:(pairTrees keys xs K.env pos).take ks.length with
  |nil=>rw[e]at pl;rw[<-pl]at h0;exact absurd h0 (Nat.lt_irrefl _)|cons=>rfl
 have hk:=List.nodup_append.mp hn;have hz':ks.length<=sizeLine:=aa (cY _ _) hz;unfold kO;rw[yn,aB c8]
 cases hm with
 |none n _ w=>
  refine ae (aJ (Bg (K:=K.at n) d h15 hz' hk.2.1 w) (λb s' h=>ax ?_) λj j q=>q)
  cases h.2 with
  |mk m' zJ a b q=>
   obtain⟨kvs,e1,e2,q⟩:=q;cases e1;exact⟨kvs,e2,ji.some (K:=K.toPt) (n.trans m') _ _ _ (gw n.R n.x h.1) a b (KY e2 h0) q⟩
 |some n _ dd _ ld hd nd ne w=>
  refine ae (bF (aJ (Bg (K:=K.at n) d h15 hz' hk.2.1 w) (λo s' h=>?_) λj j q=>q))
  cases h.2 with
  |mk m' zJ a b q=>
   obtain⟨kvs,e1,e2,q⟩:=q;cases e1;have hdM:=pI ld n hd nd m';have ldo:=h.1;have CK:(o==sysModules)=false:=dQ.mpr λz=>K.F.Wu.elim λom hom=>aI ldo (z▸n.R.stays _ _ hom);have hdo:dd≠o:=λz=>by
    obtain⟨od,_,_,hod,_⟩:=hd;exact aI ldo (z▸hod)
   have kl:kvs.length=ks.length:=by rw[<-e2,au]
   have a:m'.s.heap.DictOf K.F.Dc o kvs:=a;refine ae (wpAny_onRaise (bF (nS (knd:=K.F.Dc) hdo CK hdM.1 a ne (by rw[bM,show kvs.map (·.1)=ks from e2];exact hn) (by rw[kl];exact hz) λh' hdd hs=>ax ?_)));exact⟨kvs,e2,ji.some (K:=K.toPt) (Nx.put (n.trans m') m'.s.toks ld hdM.2 hs) _ dd _ ld hdd hdM.2 (λz=>ne (List.append_eq_nil_iff.mp z).1) q⟩
end
abbrev xc:=(Option (Sem Value)×Sem Value)->(dz×List (Sem Value×Sem Value))->Sem (ForInStep (dz×List (Sem Value×Sem Value)))
structure KZ(f:xc):Prop where
 less:∀(p:Sem Value×Sem Value) main run,run.length+1<17->f (some p.1,p.2) (main,run)=pure (.yield (main,run++[p]))
 full:∀(p:Sem Value×Sem Value) main run,run.length+1=17->f (some p.1,p.2) (main,run)=(do let m<-kO (run++[p]) main;pure (.yield (m,[])))
noncomputable abbrev oO(items:List (Sem Value×Sem Value)):List (Option (Sem Value)×Sem Value):=items.map λp=>(some p.1,p.2)
def K0{f:xc}(h:KZ f){main:dz}{items:List (Sem Value×Sem Value)}:∀{run:List (Sem Value×Sem Value)},run.length+items.length<17->forIn (oO items) (main,run) f=pure (main,run++items):=by
 induction items with
 |nil=>exact λ{run} _=>by rw[c9];rfl
 |cons p rest ih=>
  intro run l;rw[List.length_cons,<-bf,Nat.add_right_comm]at l
  show forIn ((some p.1,p.2)::oO rest) _ _=_
  rw[List.forIn_cons,h.less p main run (bP (aW _ _) l),pure_bind];have:=ih (run:=run++[p]) (by rw[aE];exact l);rw[aQ]at this;exact this
def RE{f:xc}(h:KZ f){main:dz}{more items:List (Sem Value×Sem Value)}:∀{run:List (Sem Value×Sem Value)},run.length+items.length=17->0<items.length->forIn (oO (items++more)) (main,run) f=(do let m<-kO (run++items) main;forIn (oO more) (m,[]) f):=by
 induction items with
 |nil=>exact λ{run} _ z=>nomatch z|cons p rest ih=>
  intro run l _
  show forIn ((some p.1,p.2)::oO (rest++more)) _ _=_
  cases rest with
  |nil=>
   rw[List.forIn_cons,h.full p main run l,bind_assoc];rfl
  |cons q rest=>
   rw[List.length_cons,<-bf,Nat.add_right_comm]at l;rw[List.forIn_cons,h.less p main run (by rw[<-l,List.length_cons,<-bf];exact Nat.lt_succ_of_le (aW _ _)),pure_bind];have:=ih (run:=run++[p]) (by rw[aE];exact l) (Nat.zero_lt_succ _);rw[aQ]at this;exact this
noncomputable def rW:dz->Sem Value|some d=>pure (.ref d)|none=>newDict
def zK(items:List (Sem Value×Sem Value)):∃f:xc,KZ f/\dictDisplay (oO items)=((do
   let r<-forIn (oO items) ((none:dz),([]:List (Sem Value×Sem Value))) f
   kO r.2 r.1)>>=rW):=by
 have e2:∀(t:Sem (dz×List (Sem Value×Sem Value))),((do let r<-t;kO r.2 r.1)>>=rW)=(t>>=λr=>kO r.2 r.1>>=rW):=λt=>bind_assoc ..;simp only[e2];refine⟨_,⟨?_,?_⟩,rfl⟩
 ·intro p main run h;have yn:((run++[(p.1,p.2)]).length==17)=false:=dQ.mpr (by rw[aE];exact Nat.ne_of_lt h)
  dsimp only
  rw[aB (by rw[yn];exact c8)]
 ·intro p main run h;have yn:((run++[(p.1,p.2)]).length==17)=true:=beq_iff_eq.mpr (by rw[aE];exact h)
  dsimp only
  rw[av yn];rfl
section
variable{c:Sc}{pos:Pos}{Ex:gp}
def Done{K:Kt c}(acc:KV)(ks:aF)(Q:ai->bA)(r:dz)(s':Shared):Prop:=∃kvs,keysOf kvs=ks/\ji K.toPt r (acc++kvs) (λh=>Q (iJ kvs) h) s'
def FT(a b:KV):iJ (a++b)=iJ a++iJ b:=bM
def xd{K:Pt}{r:dz}{acc:KV}{R R':bA}{s:Shared}(h:ji K r acc R s)(k:∀h,R h->R' h):ji K r acc R' s:=by
 cases h with
 |none n _ w=>exact .none n _ (k _ w)|some n _ d _ a b c e w=>exact .some n _ d _ a b c e (k _ w)
def FU{K:Kt c}{f:xc}(hf:KZ f)(k:Nat):∀{ks:aF}{m:E}{keys:List (Option Expr)}{xs:List Expr}{Q:ai->bA}{main:dz}{acc:KV}{s:Shared},xs.length<=k->DK c ks m keys xs->acc.length+xs.length<=1000->(keysOf acc++ks).Nodup->
   ji K.toPt main acc (λh=>fP K.sp K.F.tb K.ρ m h Q (λj=>False)) s->
   wpAny K.F.M K.A (do let r<-forIn (oO (pairTrees keys xs K.env pos)) (main,([]:List (Sem Value×Sem Value))) f;kO r.2 r.1) (Done (K:=K) acc ks Q) Ex s:=by
 induction k with
 |zero=>
  intro ks m keys xs Q main acc s hk d _ _ hm
  cases d with
  |nil=>exact ax ⟨[],rfl,by rw[c9];exact hm⟩|cons=>exact absurd hk (Nat.not_succ_le_zero _)
 |succ k ih=>
  intro ks m keys xs Q main acc s hk d zH hn hm;have dl:=d.len;by_cases h17:xs.length<17
  ·rw[K0 hf (by rw[dl.2.2.2];show 0+_<17;rw[cX];exact h17),pure_bind]
   show wpAny _ _ (kO (pairTrees keys xs K.env pos) main) _ _ _
   cases d with
   |nil=>exact ax ⟨[],rfl,by rw[c9];exact hm⟩|cons k kk kp e y ks es keys xs h d=>
    have d':DK c (k::ks) (.cons e es) (some (.Constant (.str k) kk kp)::keys) (y::xs):=.cons k kk kp e y ks es keys xs h d;have e:=List.take_of_length_le (Nat.le_of_eq ((dl.2.2.2 K.env pos).trans dl.1.symm));rw[<-e];exact aJ (ui (acc:=acc) d' (λj=>⟨rfl,rfl,rfl⟩) (Nat.zero_lt_succ _) (by rw[dl.1];exact aa zH aP) hn hm) (λr s' z=>z.imp λkvs z=>⟨z.1,xd z.2 λh w=>by
     have w:Q (iJ kvs++[]) h:=w;rw[c9]at w;exact w⟩) λj j q=>q
  ·cases d.split (n:=17) (Nat.le_of_not_lt h17)with
   |mk FQ uh m2 gc sW d1 d2 e1 e2 e3=>
    rw[(d1.pairs K.env pos).1,RE hf (by rw[(d1.pairs K.env pos).2];show 0+FQ.length=17;rw[cX];exact e1) (by rw[(d1.pairs K.env pos).2,e1];exact Nat.zero_lt_succ _),bind_assoc];rw[e2,<-aQ]at hn;have l1:acc.length+FQ.length<=sizeLine:=by rw[e1];rw[e3,<-bf]at zH;exact aa (aa (aW _ _) zH) aP
    refine ae (aJ (ui d1 (λz=>absurd (e1▸z) aP) (by rw[e1];exact Nat.zero_lt_succ _) l1 (List.nodup_append.mp hn).1 hm) (λr s' z=>?_) λj j q=>q);obtain⟨kvs,hk1,hm'⟩:=z;have e4:keysOf (acc++kvs)=keysOf acc++FQ:=by rw[<-hk1];exact bM
    refine aJ (ih (gE (aa (by rw[e3,fg];exact Nat.succ_le_succ (aW _ _)) hk)) d2 (by rw[aE,<-au (f:=λp:Str×Value=>p.1) (as:=kvs),show kvs.map (·.1)=FQ from hk1,e1,bf,<-e3];exact zH) (by rw[e4];exact hn) hm') (λr2 s2 z=>?_) λj j q=>q;obtain⟨XJ,hk2,zL⟩:=z;exact⟨kvs++XJ,by rw[e2,<-hk1,<-hk2];exact bM,by rw[<-aQ];exact xd zL λh w=>(FT kvs XJ).symm▸w⟩
def RF(kvs:KV):(keysOf kvs).zip (iJ kvs)=kvs.map λp=>(p.1,er p.2):=by
 induction kvs with
 |nil=>rfl|cons p ps ih=>exact ak (_::·) ih
def uj{K:Pt}{n:Nx K}{d:Addr}{kvs:KV}{Q:dm}(ld:K.s.heap.get? d=none)(hd:n.s.heap.DictOf K.F.Dc d kvs)(nd:n.H d=none)(q:dj (.dict ((keysOf kvs).zip (iJ kvs))) n.H Q):K.fk (Er Q) (.ref d) n.s:=by
 rw[RF]at q;refine⟨n.H.set d (.dict (kvs.map λ(p:Str×Value)=>(p.1,er p.2))),q d nd,⟨λb m e=>(Hp.jY e).elim (λz=>?_) λz=>n.R.objs b m z.2,λb m e mm=>(Hp.jY e).elim (λz=>by rw[z.1];exact cK K.R ld) λz=>n.R.own b m z.2 mm,n.R.stays,n.R.gens,n.R.os⟩,n.x.join nd ld⟩;rw[z.1,<-z.2];exact⟨kvs,hd,rfl,λq=>K.F.Wu.elim λom hom=>aI ld (q▸K.R.stays _ _ hom)⟩
def RG{ks:aF}{m:E}{keys:List (Option Expr)}{xs:List Expr}{p:Pos}(d:DK c ks m keys xs)(XM:xs.length<1000)(hn:ks.Nodup):SE c (.dict ks m) (.Dict keys xs p):=λK Q X w=>by
 obtain⟨f,hf,e⟩:=zK (pairTrees keys xs K.env p);rw[arm_eval_Dict,zip_pairTrees keys xs K.env p d.len.2.1 d.len.2.2.1];refine Pt.d5 ?_
 show K.Wp (dictDisplay (oO (pairTrees keys xs K.env p))) _ _
 rw[e];refine ae (aJ (FU (Ex:=K.Exc X) hf xs.length (Q:=λvs h=>dj (.dict (ks.zip vs)) h Q) (acc:=[]) (aH _) d (by rw[List.length_nil,cX];exact cM XM) hn (ji.none (K:=K.toPt) (.refl K.toPt) _ w)) (λr s' z=>?_) λj j q=>q);obtain⟨kvs,e1,z⟩:=z;generalize O4:[]++kvs=kv at z;subst O4
 cases z with
 |none n _ w=>
  show wpAny K.F.M K.A (newObj (.type "dict") (.dict #[])) _ _ _
  rw[<-e1]at w;have k1:∀b o,n.s.heap.get? b=some o->(n.s.heap.push {cls:=.type "dict",dict:=none,data:=.dict #[]}).get? b=some o:=λb o e=>cU _ e;exact wpAny_newObj_type (uj (K:=K.toPt) (n:=⟨n.H,_,n.R.more n.s.toks k1,n.x.trans (.more _ k1)⟩) (gw n.R n.x (eW _)) (Heap.DictOf.new _) (n.R.fresh (eW _)) w)
 |some n _ dd _ ld hd nd _ w=>
  rw[<-e1]at w;exact ax (uj ld hd nd w)
end
inductive RH(Q:ai->bW):Value->bW
 |mk (s:Shared) (a items):jf s.heap a items->items.size<=sizeLine->(∀h',(∀b o,s.heap.get? b=some o->h'.get? b=some o)->Q (items.toList++[]) {s with heap:=h'})->RH Q (.ref a) s
section
variable{prog:Program}{w:World}{A:Around}{s:Shared}{a:Addr}{items:Array Value}{Ex:gp}
def RI{h:Heap}(q:jf h a items):∃T o n,(T="list"\/T="tuple")/\h.get? a=some o/\o.cls=.type T/\o.data=.seq items n:=by
 cases q with
 |list q=>obtain⟨o,e,c,n,d⟩:=q;exact⟨_,o,n,.inl rfl,e,c,d⟩|tup q=>obtain⟨o,e,c,n,d⟩:=q;exact⟨_,o,n,.inr rfl,e,c,d⟩
def RJ(h:jf s.heap a items){Q:Bool->bW}(q:Q false s):wpAny (model prog w) A (notIterableAtAll (.ref a)) Q Ex s:=by
 unfold notIterableAtAll
 cases h with
 |list h=>exact ae (wpAny_specialOf h.typeIs slot_list_iter.lookup (ax q))|tup h=>exact ae (wpAny_specialOf h.typeIs _root_.PySem.F.slot_tuple_iter.lookup (ax q))
def FV{Q:ai->bW}{t:Sem Value}(ht:wpAny (model prog w) A t (RH Q) Ex s):wpAny (model prog w) A (spliced [(true,t)]) Q Ex s:=by
 rw[spliced];refine ae (aJ ht (λv s1 z=>?_) λj j q=>q)
 cases z with
 |mk _ a items q hz k=>
  rw[av rfl];refine ae (RJ q ?_);obtain⟨T,o,n,hT,ho,hc,hd⟩:=RI q;exact ae (wpAny_collect_seq (hsz:=hz) a hT ho hc hd λh' hk=>ae (bF (spliced_nil (ax (k h' hk)))))
end
section
variable{c:Sc}{e t:E}{x y:Expr}{p yp:Pos}
def K3(hx:CP x)(h:SE c e x)(ht:SE c t y):SE c (.listS e t) (.List [x,.Starred y yp] p):=λK Q X w=>by
 show K.Wp (do standAt p;newList (<-spliced (backTo p (starEach [x,.Starred y yp] K.env)))) _ _
 rw[hx.st];refine Pt.d5 (ae ?_)
 show wpAny _ _ (spliced ((false,eval x K.env)::[(true,do let v<-eval y K.env;standAt p;pure v)])) _ _ _
 refine spliced_cons (K.mono (h K _ X w) (λv n w=>?_) λj j q=>q);refine FV (ae ((K.at n).mono (ht (K.at n) _ X w) (λu n2 w=>ae (fb (ax ?_))) λj j q=>n.exc q));refine isRef (C:=λu=>RH _ u n2.s) w λa w=>?_;obtain⟨ys,q1,q2,q3⟩:=w
 cases lS n2.R q1 with
 |mk items q e hz=>
  refine .mk _ a items q (oG (e▸hz)) λh' kk=>?_;have e2:(v::(items.toList++[])).map er=er v::ys:=by rw[c9,List.map_cons,e]
  rw[<-e2]at q3;exact aJ (Pt.list (K:=Nx.p (K:=n2.p) ⟨n2.H,{n2.s with heap:=h'},n2.R.more n2.s.toks kk,.more _ kk⟩) (X:=X) (by rw[<-au (f:=er),e2];exact q2) q3) (λj j z=>n.post (n2.post (Nx.post z))) λj j z=>n.exc (n2.exc (Nx.exc z))
end
def kP{ns:aF}:∀{vs:ai}{i:Nat}{n:Str},ns.Nodup->ns[i]? =some n->(ns.zip vs).lookup n=vs[i]? :=by
 induction ns with
 |nil=>exact λj h=>eA h|cons m ns ih=>
  intro vs i n nd h
  cases vs with
  |nil=>rfl|cons w vs=>
   cases i with
   |zero=>obtain rfl:=ar h;show(match m==m with|true=>some w|false=>_)=_;rw[cW];rfl
   |succ i=>
    have h:ns[i]? =some n:=h;have yn:(n==m)=false:=dQ.mpr λe=>(nr nd).1 (e▸List.mem_of_getElem? h);show(match n==m with|true=>some w|false=>(ns.zip vs).lookup n)=_
    exact yn▸ih (nr nd).2 h
noncomputable abbrev filled(l slots:cC):cC:=l.foldl (λr x=>if(r.lookup x.1).isNone then r++[(x.1,x.2)]else r) slots
def rX{a b:cC}{n:Str}:(a++b).lookup n=(a.lookup n).or (b.lookup n):=List.lookup_append
def Dd{l:cC}{n:Str}:∀{slots:cC},(filled l slots).lookup n=(slots.lookup n).or (l.lookup n):=by
 induction l with
 |nil=>intro slots;show slots.lookup n=_;cases slots.lookup n<;>rfl
 |cons x l ih=>
  intro slots;have key:(if(slots.lookup x.1).isNone then slots++[(x.1,x.2)]else slots).lookup n=(slots.lookup n).or ([x].lookup n):=by
   cases e:slots.lookup x.1 with
   |none=>exact rX|some v=>
    show slots.lookup n=_
    by_cases z:n=x.1
    ·rw[z,e];rfl
    ·have hb:(n==x.1)=false:=dQ.mpr z
     show _=(slots.lookup n).or (match n==x.1 with|true=>some x.2|false=>none)
     rw[hb];cases slots.lookup n<;>rfl
  refine(ih (slots:=if(slots.lookup x.1).isNone then slots++[(x.1,x.2)]else slots)).trans ?_;have e2:(x::l).lookup n=([x].lookup n).or (l.lookup n):=rX (a:=[x]);refine key▸e2▸?_;cases slots.lookup n<;>rfl
def FW{M:Model}{A:Around}{E:gp}{β:Type}{k:cC->Sem β}{Q:β->bW}{s:Shared}{l:cC}:∀{slots:cC},wpAny M A (k (filled l slots)) Q E s->
  wpAny M A (forIn l slots (λ(x:Str×Value) (r:cC)=>(if((r.lookup x.1).isNone=true)then pure (ForInStep.yield (r++[(x.1,x.2)]))else pure (ForInStep.yield r):Sem (ForInStep cC)))>>=k) Q E s:=by
 induction l with
 |nil=>exact id|cons x l ih=>
  intro slots h;rw[List.forIn_cons];by_cases z:(slots.lookup x.1).isNone=true
  ·rw[av z];exact ih (by rw[filled,List.foldl_cons,av z]at h;exact h)
  ·rw[aB z];exact ih (by rw[filled,List.foldl_cons,aB z]at h;exact h)
def tD{ns:aF}:∀{ws:ai}{slots:cC},ns.length=ws.length->(∀(i:Nat)(n:Str),ns[i]? =some n->slots.lookup n=ws[i]?)->(ns.filterMap λn=>(slots.lookup n).map (n,·))=ns.zip ws:=by
 induction ns with
 |nil=>exact λj j=>rfl|cons n ns ih=>
  intro ws slots hl h
  cases ws with
  |nil=>cases hl|cons w ws=>
   rw[List.filterMap_cons,h 0 n rfl];exact ak ((n,w)::·) (ih (Nat.succ.inj hl) λi m hm=>h (i+1) m hm)
structure Fits(ns:aF)(vs ds:ai):Prop where
 nd:ns.Nodup
 Jp:ds.length<=ns.length
 most:vs.length<=ns.length
 all:ns.length<=vs.length+ds.length
noncomputable abbrev given(n:Nat)(vs ds:ai):ai:=vs++ds.drop (vs.length+ds.length-n)
section
variable{ns:aF}{vs ds:ai}
def K4{n v d:Nat}(h1:v<=n)(h2:n<=v+d):n=v+(d-(v+d-n)):=by
 obtain⟨a,rfl⟩:=Nat.le.dest h1;obtain⟨b,rfl⟩:=Nat.le.dest (Nat.le_of_add_le_add_left h2);rw[<-bf,hU,Nat.add_sub_cancel]
def Fits.len(f:Fits ns vs ds):ns.length=(given ns.length vs ds).length:=by
 rw[aE,List.length_drop];exact K4 f.most f.all
def K5{n v d i:Nat}(h1:d<=n)(h3:n<=v+d)(hv:v<=i):n-d<=i/\(i-(n-d))=(v+d-n)+(i-v):=by
 obtain⟨m,rfl⟩:=Nat.le.dest h1;obtain⟨j,rfl⟩:=Nat.le.dest hv;rw[fg v d]at h3;obtain⟨k,rfl⟩:=Nat.le.dest (Nat.le_of_add_le_add_left h3);rw[hU,fg (m+k) d,Nat.add_sub_add_left,hU,hU,bf,hU];exact⟨aW _ _,rfl⟩
def RK{n v d i:Nat}(h3:n<=v+d)(h:i<n-d):i<v:=dI h (Nat.sub_le_iff_le_add.mpr h3)
def Fits.at(f:Fits ns vs ds){i:Nat}{n:Str}(e:ns[i]? =some n):(filled ((ns.drop (ns.length-ds.length)).zip ds) (ns.zip vs)).lookup n=(given ns.length vs ds)[i]? :=by
 rw[Dd,kP f.nd e];by_cases h:i<vs.length
 ·rw[fO h,bN h];rfl
 ·have h:=Nat.le_of_not_lt h;obtain⟨q1,q2⟩:=K5 f.Jp f.all h;rw[fD h,List.getElem?_eq_none h,List.getElem?_drop,<-q2];refine(kP (f.nd.sublist (List.drop_sublist _ _)) (i:=i-(ns.length-ds.length)) ?_);rw[List.getElem?_drop,Nat.add_sub_cancel' q1];exact e
def Fits.done(f:Fits ns vs ds){V0:ai}(e:V0=ds):(pure (List.filterMap (λn=>((filled ((ns.drop (ns.length-V0.length)).zip V0) (ns.zip vs)).lookup n).map (n,·)) (ns++[])):Sem cC)=pure (ns.zip (given ns.length vs ds)):=by subst e;rw[c9,tD f.len λi n h=>f.at h]
def Fits.missing(f:Fits ns vs ds){V0:ai}(e:V0=ds):(!((ns.take (ns.length-V0.length)).filter (λn=>((ns.zip vs).lookup n).isNone)).isEmpty)=false:=by
 cases e;have key:=List.filter_eq_nil_iff.mpr λn (hn:n∈ns.take (ns.length-ds.length))=>show¬(((ns.zip vs).lookup n).isNone=true) by
  obtain⟨i,hi⟩:=List.mem_iff_getElem?.mp hn;have mP:i<ns.length-ds.length:=dI (dO hi).1 (by rw[List.length_take];exact Nat.min_le_left _ _);rw[List.getElem?_take_of_lt mP]at hi;rw[kP f.nd hi,bN (RK f.all mP)];exact c8
 rw[key];rfl
def Fits.RL(f:Fits ns vs ds):(decide (vs.length>ns.length)&&true)=false:=by rw[b9 (Nat.not_lt.mpr f.most)];rfl
def O'{M:Model}{A:Around}{E:gp}{β:Type}{a b:Sem β}{Q:β->bW}{s:Shared}{c:Bool}(e:c=false)(h:wpAny M A b Q E s):wpAny M A (if c=true then a else b) Q E s:=by subst e;exact h
def vo{M:Model}{A:Around}{E:gp}{β:Type}{a b:Sem β}{Q:β->bW}{s:Shared}(e:a=b)(h:wpAny M A b Q E s):wpAny M A a Q E s:=e▸h
def FX{as:List Arg}{kd:List (Option Expr)}{df:List Expr}{nm qn:Str}{bd:FuncBody}{sc:Scope}{gl bl:Addr}{cl:List (Str×Addr)}{dfs kwd doc pm cdv ct:Value}{an:dz}{s:Shared}(f:Fits (as.map (·.arg)) vs ds)
  {M:Model} {A:Around} {E:gp} {Q:cC->bW} (q:Q ((as.map (·.arg)).zip (given (as.map (·.arg)).length vs ds)) s)
  (hd:∀(Q:Option (Array Value)->bW),(∀d,(d.getD #[]).toList=ds->Q d s)->wpAny M A (seqItems? dfs) Q E s):
  wpAny M A (bindArgs ⟨nm,qn,⟨[],as,none,[],kd,none,df⟩,bd,sc,gl,cl,dfs,kwd,doc,pm,an,cdv,ct,bl⟩ ⟨vs,[]⟩) Q E s:=by
 refine ae (m:=seqItems? dfs) (hd _ λd e=>?_);have e0:(d.getD #[]).toList.drop ((d.getD #[]).toList.length-(as.map (·.arg)).length)=ds:=by rw[e,Nat.sub_eq_zero_of_le f.Jp];rfl
 exact O' (c:=decide (vs.length>(as.map (·.arg)).length)&&true) f.RL (O' (f.missing e0) (FW (wpAny_of_eq (f.done e0) q)))
def FY{p:Arguments}{po ko va kw}(h1:p.posonlyargs=po)(h2:p.kwonlyargs=ko)(h3:p.vararg=va)(h4:p.kwarg=kw):p=⟨po,p.args,va,ko,p.kw_defaults,kw,p.defaults⟩:=by cases p;subst h1;subst h2;subst h3;subst h4;exact rfl
def XN{fd:FuncData}(h1:fd.params.posonlyargs=[])(h2:fd.params.kwonlyargs=[])(h3:fd.params.vararg=none)(h4:fd.params.kwarg=none):fd={fd with params:=⟨[],fd.params.args,none,[],fd.params.kw_defaults,none,fd.params.defaults⟩}:=
 ak (λp=>{fd with params:=p}) (FY h1 h2 h3 h4)
def K6{fd:FuncData}{s:Shared}(h:fd={fd with params:=⟨[],fd.params.args,none,[],fd.params.kw_defaults,none,fd.params.defaults⟩})(f:Fits (fd.params.args.map (·.arg)) vs ds)
  (hd:∀(M:Model)(A:Around)(E:gp)(Q:Option (Array Value)->bW),(∀d,(d.getD #[]).toList=ds->Q d s)->wpAny M A (seqItems? fd.defaults) Q E s):
  BindsTo s fd ⟨vs,[]⟩ ((fd.params.args.map (·.arg)).zip (given (fd.params.args.map (·.arg)).length vs ds)):=λM A E Q q=>
 vo (ak (bindArgs · ⟨vs,[]⟩) h) (FX f q (hd M A E))
end
def FZ{names:List (Str×NameKind)}:∀{k:Nat}{acc:List (Str×Addr)},(cellsFrom k names acc).map (·.1)=((names.filter λp=>p.2==.cell).map (·.1)).reverse++acc.map (·.1):=by
 induction names with
 |nil=>exact rfl|cons p r ih=>
  intro k acc;show(if p.2==.cell then cellsFrom (k+1) r ((p.1,k)::acc)else cellsFrom k r acc).map _=_
  by_cases h:(p.2==.cell)=true
  ·rw[av h,ih,List.filter_cons_of_pos (p:=λq:Str×NameKind=>q.2==NameKind.cell) h,List.map_cons,List.map_cons,List.reverse_cons,aQ];rfl
  ·rw[aB h,ih,List.filter_cons_of_neg (p:=λq:Str×NameKind=>q.2==NameKind.cell) h]
def F1{names:List (Str×NameKind)}{k:Nat}(h:(names.map (·.1)).Nodup):((cellsFrom k names []).map (·.1)).Nodup:=by
 rw[FZ,List.map_nil,c9];exact List.pairwise_reverse.mpr ((h.sublist (List.Sublist.map _ List.filter_sublist)).imp b8)
section
variable{kindOf:Str->Option NameKind}{x:Str}{v:Value}
def De{c6:cC}:∀{m:Str->bq},x∉c6.map (·.1)->bindL kindOf c6 m x=m x:=by
 induction c6 with
 |nil=>exact λj=>rfl|cons p r ih=>
  intro m h;refine(ih λz=>h (.tail _ z)).trans ?_;have n:x≠p.1:=λz=>h (z▸.head _);by_cases k:kindOf p.1=some .local
  ·rw[av k];exact aB n
  ·rw[aB k]
def Df{c6:cC}:∀{m:Str->bq},x∉c6.map (·.1)->bindC kindOf c6 m x=m x:=by
 induction c6 with
 |nil=>exact λj=>rfl|cons p r ih=>
  intro m h;refine(ih λz=>h (.tail _ z)).trans ?_;have n:x≠p.1:=λz=>h (z▸.head _);by_cases k:kindOf p.1=some .local
  ·rw[av k]
  ·rw[aB k];exact aB n
def Bh{p:Str×Value}{r:cC}(e:(p::r).lookup x=some v):(x=p.1/\p.2=v)\/r.lookup x=some v:=by
 by_cases z:x=p.1
 ·rw[z]at e;have e:(match p.1==p.1 with|true=>some p.2|false=>r.lookup p.1)=some v:=e;rw[cW]at e;exact .inl ⟨z,ar e⟩
 ·have hb:(x==p.1)=false:=dQ.mpr z;have e:(match x==p.1 with|true=>some p.2|false=>r.lookup x)=some v:=e;rw[hb]at e;exact .inr e
def F2{c6:cC}(k:kindOf x=some .local):∀{m:Str->bq},(c6.map (·.1)).Nodup->c6.lookup x=some v->bindL kindOf c6 m x=some v:=by
 induction c6 with
 |nil=>exact λj e=>eA e|cons p r ih=>
  intro m nd e
  cases Bh e with
  |inl z=>
   obtain⟨rfl,rfl⟩:=z;exact(De (nr nd).1).trans (by rw[av k];exact av rfl)
  |inr z=>exact ih (nr nd).2 z
def F3{c6:cC}(k:kindOf x≠some .local):∀{m:Str->bq},(c6.map (·.1)).Nodup->c6.lookup x=some v->bindC kindOf c6 m x=some v:=by
 induction c6 with
 |nil=>exact λj e=>eA e|cons p r ih=>
  intro m nd e
  cases Bh e with
  |inl z=>
   obtain⟨rfl,rfl⟩:=z;exact(Df (nr nd).1).trans (by rw[aB k];exact av rfl)
  |inr z=>exact ih (nr nd).2 z
end
structure hH(f:Fn)(p:Arguments)(sc:Scope):Prop where
 kind:sc.kind=.function
 gen:sc.isGenerator=false
 co:sc.isCoroutine=false
 names:∀q∈sc.names,q.2=.local\/q.2=.cell\/q.2=.globalImplicit
 pos:p.posonlyargs=[]
 var:p.vararg=none
 kwo:p.kwonlyargs=[]
 kwa:p.kwarg=none
 len:p.args.length=f.params
 im:(p.args.map (·.arg)).zipIdx=(kh sc).take f.params
 nd:(sc.names.map (·.1)).Nodup
 size:(kh sc).length<=f.size
def not_true{b:Bool}(h:(!b)=true):b=false:=by cases b<;>first|rfl|exact iM h
def xe{f:Fn}{p:Arguments}{sc:Scope}(h:A3 f p sc=true):hH f p sc:=by
 unfold A3 at h
 iterate 11 rw[dr]at h
 obtain⟨⟨⟨⟨⟨⟨⟨⟨⟨⟨⟨h1,h2⟩,h3⟩,h4⟩,h5⟩,h6⟩,h7⟩,h8⟩,h9⟩,h10⟩,h11⟩,h12⟩:=h;refine⟨eq_of_beq h1,not_true h2,not_true h3,λq hq=>?_,List.isEmpty_iff.mp h5,Option.isNone_iff_eq_none.mp h6,List.isEmpty_iff.mp h7,Option.isNone_iff_eq_none.mp h8,eq_of_beq h9,eq_of_beq h10,cf h11,cf h12⟩;exact((gg _ _).mp (bQ h4 q hq)).elim (λz=>((gg _ _).mp z).imp eq_of_beq λz=>.inl (eq_of_beq z)) λz=>.inr (.inr (eq_of_beq z))
structure En(K:Pt)(c:Sc)(ρ:aS)where
 env:Env
 L:Addr
 s:Shared
 sp:Spec
 N:Nat
 S:oD K.F sp N
 hd:K.A.depth+1+2*N<=978
 hu:K.A.units+3+50*N<=9750
 R:K.F.R K.H s
 x:Ext (nL K.fr) K.H K.s.heap K.H s.heap
 eL:env.frame=some L
 hf:Frs K.F (K.A.deeper env) (env::K.fr) K.H s.heap
 hb:lF K.F env (env::K.fr) c ρ K.H s.heap
 ho:tX env K.H s.heap
 so:Kp c env
 new:∀a∈own env,K.s.heap.get? a=none
 CG:K.s.heap.get? L=none
section
variable{K:Pt}{c:Sc}{ρ:aS}{e:En K c ρ}{X:bA}
@[reducible] def En.k(e:En K c ρ):Kb c:=⟨⟨⟨K.F,K.A.deeper e.env,e.env::K.fr,K.H,e.s,e.N,e.R,e.hf,e.hd,e.hu⟩,e.env,ρ,e.sp,e.S,e.hb⟩,e.ho,e.so⟩
def Ext.XO{FA FB:bJ}{H H':Hp}{h h':Heap}(x:Ext FA H h H' h')(q:∀a∈FA,a∈FB):Ext FB H h H' h':=
 ⟨λa o e n=>(x.rest a o e n).elim λsl e1 q1=>⟨sl,e1,λhn=>q1 λhm=>hn (q a hm)⟩,x.same,x.ym,x.fresh⟩
def F4{env:Env}{fr:List Env}{L:Addr}(h:env.frame=some L):nL (env::fr)=L::nL fr:=by unfold nL;rw[List.filterMap_cons,h]
def En.out(e:En K c ρ){H':Hp}{h':Heap}(y:e8 (own e.env) (nL (e.env::K.fr)) K.H e.s.heap H' h'):Ext (nL K.fr) K.H K.s.heap H' h':=by
 have y:=y;rw[F4 e.eL]at y;refine Ext.Wt (e8.out (e.x.XO λa ha=>.tail _ ha) y e.new) λa ha=>?_
 cases ha with
 |head=>exact .inr e.CG|tail _ z=>exact .inl z
def En.gone(e:En K c ρ){H':Hp}{a:Addr}(n:fW e.s.heap H' a):fW K.s.heap H' a:=⟨gw e.R e.x n.1,n.2⟩
def K7{v:Value}{s':Shared}(p:e.k.Exc X v s'):wpAny K.F.M e.k.A (leaving e.env v) (λj VU=>K.Exc X v VU) (λe' VU=>K.Exc X e' VU) s':=by
 obtain⟨ρ',H',q,R',y,I,_⟩:=p;have f':=e.hf.vg y
 cases I.seen (L:=e.L) e.eL with
 |mk x a0 T? nx ti nT=>
  unfold leaving;refine ae (wX f'.stack f'.ow e.eL e.eL ti λh2 T hT tr zp=>?_);have tT:fW e.s.heap H' T:=hT.elim (λz=>⟨nP R' y z,R'.fresh z⟩) (nT T);refine nR tr λh3 tr3 k=>?_;have zp:O5 (nL (e.env::K.fr)) x T? s'.heap h3:=λb o eb n1 n2=>(zp b o eb n1 n2).elim λsl e1 q1=>⟨sl,k b _ e1 λz=>hT.elim (λw=>aI w (z▸eb)) λw=>n2 (z▸w),q1⟩
  have R3:=qI R' f' zp ⟨cK e.R nx.1,nx.2⟩ λT z=>⟨cK e.R (nT T z).1,(nT T z).2⟩
  exact⟨H',q,R3,e.out (qH y zp nx.1 λT z=>(nT T z).1),rS (e.gone nx) (e.gone tT) tr3 (.inl rfl)⟩
noncomputable def lcs(sc:Scope):aF:=(sc.names.filter λp=>p.2==.local||p.2==.cell).map (·.1)
def pJ{l:aF}{x:Str}{i:Nat}(h:l.zipIdx.lookup x=some i):l[i]? =some x:=by
 have:=List.mem_zipIdx (mem_lookup h);rw[bN (cX l.length▸this.2.1)];exact ak some this.2.2.symm
variable{f:Fn}{p:Arguments}{sc:Scope}{x:Str}{i:Nat}
def hH.args(c:hH f p sc):p.args.map (·.arg)=(lcs sc).take f.params:=by
 have:=ak (List.map Prod.fst) c.im;rw[List.map_take]at this;unfold kh at this;rw[List.zipIdx_map_fst,List.zipIdx_map_fst]at this;exact this
def Dg(nd:(sc.names.map (·.1)).Nodup):(lcs sc).Nodup:=nd.sublist (List.Sublist.map _ List.filter_sublist)
def hH.RM(c:hH f p sc):(p.args.map (·.arg)).Nodup:=by rw[c.args];exact(Dg c.nd).sublist (List.take_sublist _ _)
def hH.slot(c:hH f p sc)(h:(kh sc).lookup x=some i)(hi:i<f.params):(p.args.map (·.arg))[i]? =some x:=by rw[c.args,List.getElem?_take_of_lt hi];exact pJ h
def hH.XQ(c:hH f p sc)(h:x∈p.args.map (·.arg)):sc.names.lookup x=some .local\/sc.names.lookup x=some .cell:=by
 rw[c.args]at h;obtain⟨⟨y,k⟩,hp,rfl⟩:=ja (List.mem_of_mem_take h);obtain⟨h1,h2⟩:=List.mem_filter.mp hp;exact((gg _ _).mp h2).imp (λz=>eQ c.nd (by rw[<-eq_of_beq z];exact h1)) λz=>eQ c.nd (by rw[<-eq_of_beq z];exact h1)
end
def some_at{α:Type}{ws:List α}{k i:Nat}{v:α}(h:(ws.map some++List.replicate k none)[i]? =some (some v)):ws[i]? =some v:=by
 by_cases l:i<(ws.map some).length
 ·rw[fO l,cy]at h;exact(dA h).elim λw z=>z.1.trans z.2
 ·rw[fD (Nat.le_of_not_lt l),List.getElem?_replicate]at h;by_cases q:i-(ws.map some).length<k
  ·rw[av q]at h;cases h
  ·rw[aB q]at h;exact eA h
structure Bd(f:Fn)(fd:FuncData)(vs:ai)(s:Shared)(c6:cC):Prop where
 to:BindsTo s fd ⟨vs,[]⟩ c6
 nd:(c6.map (·.1)).Nodup
 kind:∀x∈c6.map (·.1),fd.scope.names.lookup x=some .local\/fd.scope.names.lookup x=some .cell
 val:∀y i v,(kh fd.scope).lookup y=some i->(args f (vs.map er))[i]? =some (some v)->∃v',c6.lookup y=some v'/\er v'=v
section
variable{f:Fn}{fd:FuncData}{vs ds:ai}{s:Shared}
def hH.bd(c:hH f fd.params fd.scope)(hds:ds.map er=f.fR)(Jp:f.fR.length<=f.params)(h1:vs.length<=f.params)(h2:f.params<=vs.length+f.fR.length)
  (hd:∀(M:Model)(A:Around)(E:gp)(Q:Option (Array Value)->bW),(∀d,(d.getD #[]).toList=ds->Q d s)->wpAny M A (seqItems? fd.defaults) Q E s):
  ∃c6,Bd f fd vs s c6:=by
 have hl:(fd.params.args.map (·.arg)).length=f.params:=(au _).trans c.len;have hdl:ds.length=f.fR.length:=by rw[<-hds,au]
 have fi:Fits (fd.params.args.map (·.arg)) vs ds:=⟨c.RM,by rw[hl,hdl];exact Jp,by rw[hl];exact h1,by rw[hl,hdl];exact h2⟩
 have hn:((fd.params.args.map (·.arg)).zip (given (fd.params.args.map (·.arg)).length vs ds)).map (·.1)=fd.params.args.map (·.arg):=List.map_fst_zip (Nat.le_of_eq fi.len);refine⟨_,K6 (XN c.pos c.kwo c.var c.kwa) fi hd,by rw[hn];exact fi.nd,λx hx=>c.XQ (by rw[<-hn];exact hx),λy i v hy hv=>?_⟩;have hv:=some_at hv;have e:vs.map er++f.fR.drop ((vs.map er).length+f.fR.length-f.params)=(given (fd.params.args.map (·.arg)).length vs ds).map er:=by rw[bM,List.map_drop,hds,hdl,hl,au]
 rw[e,cy]at hv;obtain⟨v',q1,q2⟩:=dA hv;have hi:i<f.params:=by
  have:=(dO q1).1;rw[<-fi.len,hl]at this;exact this
 exact⟨v',(kP fi.nd (c.slot hy hi)).trans q1,q2⟩
def FnHd.bd{F:Fix}{a:Addr}{body:List Stmt}{H:Hp}(I:FnHd F.base a f fd body)(R:F.R H s)(h1:vs.length<=f.params)(h2:f.params<=vs.length+f.fR.length):∃c6,Bd f fd vs s c6:=by
 have c:=xe I.hd;rcases I.dflt with⟨e1,e2⟩|⟨T,oT,items,n,e1,e2,e3,e4⟩
 ·exact c.bd (ds:=[]) (by rw[e2];rfl) I.Jp h1 h2 λM A E Q k=>by rw[e1];exact ax (k none rfl)
 ·exact c.bd e4 I.Jp h1 h2 λM A E Q k=>by rw[e1];exact wpAny_seqItems (R.stays T oT e2) e3 (k (some items) rfl)
variable{K:Pt}{f:Fn}{fd:FuncData}{c6:cC}{env:Env}{s1:Shared}
noncomputable def envOf(fd:FuncData)(a:Addr)(s:Shared):Env:=newEnv fd.scope s.heap.objs.size mainGlobals (cellsFrom (s.heap.objs.size+1) fd.scope.names []) (fd.qualname++".<locals>.") (some a) fd.code none builtinsNs
abbrev Ent(fd:FuncData)(a:Addr)(s:Shared)(c6:cC)(s1:Shared):Prop:=
 InCallC s (envOf fd a s).locals (bindL (envOf fd a s).kindOf c6 λj=>none) (envOf fd a s).cells (bindC (envOf fd a s).kindOf c6 λj=>none) s1
variable{a:Addr}
def vq(x:Ent fd a s c6 s1):∀b∈own (envOf fd a s),s.heap.get? b=none:=λb hb=>nK<|by
 cases hb with
 |head=>exact aH _|tail _ z=>
  obtain⟨p,hp,e⟩:=ja z;exact e▸cM (x.above p.1 p.2 hp)
def uk(c:hH f fd.params fd.scope):((envOf fd a s).cells.map (·.1)).Nodup:=F1 c.nd
def Bi(c:hH f fd.params fd.scope)(x:Ent fd a s c6 s1):∀b∈own (envOf fd a s),∃o,s1.heap.get? b=some o/\cD o:=λb hb=>by
 cases hb with
 |head=>exact O2 x.toInCall.ns|tail _ z=>
  obtain⟨p,hp,e⟩:=ja z;obtain⟨o,e1,e2⟩:=x.cell p.1 p.2 (eQ (uk c) hp);exact⟨o,e▸e1,λvs q=>by rw[e2]at q;cases q⟩
def Di(x:Ent fd a s c6 s1):(envOf fd a s).locals∉(envOf fd a s).cells.map (·.2):=λq=>by
 obtain⟨p,hp,e⟩:=ja q;exact Nat.lt_irrefl _ (e▸x.above p.1 p.2 hp)
def RN(c:hH f fd.params fd.scope)(x:Ent fd a s c6 s1):Kp ⟨kh fd.scope,fd.scope.names⟩ (envOf fd a s):=
 ⟨λy z i hy hz=>ar ((pJ hy).symm.trans (pJ hz)),List.pairwise_map.mpr x.apart,Di x,uk c⟩
def F5(c:hH f fd.params fd.scope){y:Str}(h:fd.scope.names.lookup y=some .cell\/fd.scope.names.lookup y=some .free):fd.scope.names.lookup y=some .cell/\∃b,(envOf fd a s).cells.lookup y=some b:=by
 have hc:fd.scope.names.lookup y=some .cell:=h.elim id λq=>by rcases c.names _ (mem_lookup q)with z|z|z<;>cases z
 exact⟨hc,Option.isSome_iff_exists.mp (cellsFrom_some fd.scope.names (s.heap.objs.size+1) [] (.inl hc))⟩
def K8{F:Fix}{H:Hp}{fr:List Env}(c:hH f fd.params fd.scope)(b:Bd f fd vs s c6)(R:F.R H s)(x:Ent fd a s c6 s1):lF F (envOf fd a s) (envOf fd a s::fr) ⟨kh fd.scope,fd.scope.names⟩ (args f (vs.map er)) H s1.heap:=by
 have new:=vq x;refine⟨⟨nofun,rfl⟩,c.kind,λy k hk=>?_,rfl,rfl,R.fresh (new _ (.head _)),cK R (new _ (.head _)),⟨_,x.toInCall.ns,λy i v hy hl hv=>?_⟩,λy i hy hl=>?_⟩
 ·exact⟨λe=>hk.trans (ak some e),λe=>hk.trans (ak some e),λe=>e.imp (λe=>hk.trans (ak some e)) λe=>hk.trans (ak some e)⟩
 ·obtain⟨v',q1,q2⟩:=b.val y i v hy hv;exact⟨v',F2 (kindOf:=(envOf fd a s).kindOf) hl b.nd q1,q2⟩
 ·obtain⟨hc,a',ha⟩:=F5 (a:=a) (s:=s) c hl;have m:=oH ha;refine⟨a',_,ha,R.fresh (new _ m),cK R (new _ m),x.cell y a' ha,λv hv=>?_⟩;obtain⟨v',q1,q2⟩:=b.val y i v hy hv;exact⟨v',F3 (kindOf:=(envOf fd a s).kindOf) (λz=>nomatch(hc.symm.trans z)) b.nd q1,q2⟩
def K9{F:Fix}{A:Around}{H:Hp}{fr:List Env}(c:hH f fd.params fd.scope)(R:F.R H s)(hf:Frs F A fr H s.heap)(x:Ent fd a s c6 s1):Frs F (A.deeper (envOf fd a s)) (envOf fd a s::fr) H s1.heap:=by
 refine⟨Around.frames_deeper hf.stack,⟨λz=>(nomatch(c.kind.symm.trans z)),⟨s.heap.objs.size,(Bi c x _ (.head _)).imp λo z=>⟨rfl,cK R (eW _),z.1,z.2⟩⟩,(hf.ext (Ext.more _ x.toInCall.keep)).ow⟩,λL hL=>?_,hf.handled⟩
 cases hL with
 |head=>exact R.fresh (eW _)|tail _ z=>exact hf.off L z
def RO(c:hH f fd.params fd.scope)(b:Bd f fd vs K.s c6){sp:Spec}{N:Nat}(S:oD K.F sp N)(hd:K.A.depth+1+2*N<=978)(hu:K.A.units+3+50*N<=9750)(x:Ent fd a K.s c6 s1):
  ∃e:En K ⟨kh fd.scope,fd.scope.names⟩ (args f (vs.map er)),e.env=envOf fd a K.s/\e.s=s1/\e.sp=sp/\e.N=N:=by
 obtain⟨h1',tk,hs1,keep⟩:=x.done;have R1:K.F.R K.H s1:=by rw[hs1];exact K.R.more _ keep
 exact⟨⟨envOf fd a K.s,_,s1,sp,N,S,hd,hu,R1,Ext.more _ x.toInCall.keep,rfl,K9 c K.R K.hf x,K8 c b K.R x,λb hb=>⟨K.R.fresh (vq x b hb),Bi c x b hb⟩,RN c x,vq x,eW _⟩,rfl,rfl,rfl,rfl⟩
def FnHd.XR{F:Fix}{body:List Stmt}(I:FnHd F.base a f fd body)(s:Shared):newEnv fd.scope s.heap.objs.size fd.globals (cellsFrom (s.heap.objs.size+1) fd.scope.names []) (fd.qualname++".<locals>.") (some a) fd.code none fd.builtins=envOf fd a s:=by rw[I.glob,I.blt];rfl
abbrev Rt(Q:dm):Fl->Hp->Prop:=λfl h=>eZ fl (λj=>Q .none h) λv=>Q v h
def xf{body:List Stmt}{Q:dm}{X:bA}{sp:Spec}{N:Nat}(I:FnHd K.F.base a f fd body)(S:oD K.F sp N)(hd:K.A.depth+1+2*N<=978)(hu:K.A.units+3+50*N<=9750)(h1:vs.length<=f.params)(h2:f.params<=vs.length+f.fR.length)
  (hw:∀e:En K ⟨kh fd.scope,fd.scope.names⟩ (args f (vs.map er)),e.sp=sp->e.N=N->e.k.W (execs body e.env) (Fw (Rt Q)) X):
  codeAny K.F.M K.A (.call (.ref a) ⟨vs,[]⟩) (Ends K.F K.fr K.H K.s Q X) K.s:=by
 have c:=xe I.hd;obtain⟨o,ho,hfd⟩:=I.obj;obtain⟨c6,b⟩:=I.bd K.R h1 h2;refine codeAny_call_function (bP (aa (aW _ _) K.hd) aP) (K.R.stays a o ho) hfd c.co c.gen I.body (I.code.keeps K.R.stays) (b.to _ _ _ _ ?_);rw[I.clo];refine wpAny_newFunctionEnv_cells c.kind (λx hx=>(b.kind x.1 (jb ⟨x,hx,rfl⟩)).imp id λq=>⟨q,cellsFrom_some _ _ _ (.inl q)⟩) λenv he s1 x=>⟨(K.F.lim.keeps K.R.stays).keeps x.toInCall.keep,codeAny_func ?_⟩
 cases he.trans (I.XR K.s);obtain⟨e,e1,e2,e3,e4⟩:=RO c b S hd hu x;rw[<-e1,<-e2];refine aJ (hw e e3 e4) (λfl s2 h=>?_) λj j h=>K7 h;obtain⟨ρ',H2,q,R2,x2,_⟩:=h
 cases fl with
 |next=>exact⟨H2,q,R2,e.out x2⟩
 |ret v=>exact⟨H2,q,R2,e.out x2⟩|_=>exact q.elim
end
section
variable{c:Sc}{x:Addr}{w:Value}{X:bA}
def Kt.tok{K:Kt c}{α:Type}{t:Sem α}{Q:α->bA}(k:Nat)(h:(K.at ⟨K.H,{K.s with toks:=k},K.R.toks k,Ext.refl _ _ _⟩).Wp t Q X):wpAny K.F.M K.A t (K.fk Q) (K.Exc X) {K.s with toks:=k}:=
 aJ h (λj j=>Nx.post (n:=⟨K.H,{K.s with toks:=k},K.R.toks k,Ext.refl _ _ _⟩)) λj j=>Nx.exc (n:=⟨K.H,{K.s with toks:=k},K.R.toks k,Ext.refl _ _ _⟩)
def rY(o:Obj)(f):(o.mapFields f).dict=o.dict:=by obtain⟨c,d,dt,sl⟩:=o;cases dt<;>rfl
def Dj{h:Heap}{a:Addr}{o:Obj}{vs:Array Value}(e:h.get? a=some o)(d:o.data=.fields vs)(i:Nat)(v:Value):∃o',(h.update a (Obj.mapFields (·.setIfInBounds i v))).get? a=some o'/\o'.cls=o.cls/\o'.dict=o.dict/\o'.data=.fields (vs.setIfInBounds i v):=
 ⟨_,Heap.get?_update_self _ e (Obj.isFreed_of_fields (Obj.data_mapFields d _)),Obj.cls_mapFields _ _,rY _ _,Obj.data_mapFields d _⟩
def RP{K:Pt}{v:Value}(hx:K.H x=some (.exc true)):K.Wp (call (.builtin "ValueError.__init__") [.ref x,v]) (Er λj h=>h=K.H.set x (.exc true)) X:=by
 obtain⟨oe,vs,a0,ho,hc,hd,h0,h1,hn⟩:=K.R.objs x _ hx;obtain⟨F,A,fr,H,⟨h,g,d,t,os⟩,N,R,hf,A4,hu⟩:=K;refine EA (F.bad.keeps R.stays) ho hc hd h0 ?_;obtain⟨o',q1,q2,q3,q4⟩:=Dj (cU (fV [v]) ho) hd 0 (.ref h.objs.size);have Rm:F.R H ⟨h.push (fV [v]),g,d,t,os⟩:=R.more _ λb o e=>cU _ e;exact⟨_,rfl,Rel.put (o':=.exc true) Rm hx rfl (Heap.SameBut.update ..) ⟨o',_,_,q1,q2.trans hc,q4,by rw[Array.getElem?_setIfInBounds_self_of_lt (VY h0)],by rw[Array.getElem?_setIfInBounds_ne aP];exact h1,λz=>q3.trans (hn z)⟩ _,(Ext.more _ λb o e=>cU _ e).trans (Ext.put _ hx rfl (Heap.SameBut.update ..))⟩
def RQ(hk:c.names.lookup (ofString "ValueError")=some .globalImplicit){K:Kt c}{p:Pos}{Q:gp}{E:gp}(h:Q (.type "ValueError") K.s):wpAny K.F.M K.A (eval (.Name (ofString "ValueError") p) K.env) Q E K.s:=
 mD hk (.inr ⟨by decide+kernel,by decide+kernel⟩) pX h
def Dk{K:Kt c}{a b:Expr}{vp p ap:Pos}(hp:ap.endLine=p.line)(g:c.names.lookup (ofString "ValueError")=some .globalImplicit)(hs:D9 c (.cons (.loc 0) (.cons (.loc 1) .nil)) [a,b])(hρ:K.ρ=args JJ [.ref x,w])(hx:K.H x=some (.exc true)):
  K.Wp (eval (.Call (.Attribute (.Name (ofString "ValueError") vp) (ofString "__init__") ap) [a,b] [] p) K.env) (Er λj h=>h=K.H.set x (.exc true)) X:=by
 show K.Wp (do
  let ov<-eval (.Name (ofString "ValueError") vp) K.env
  standAt ap.atName
  methodCall (.Name (ofString "ValueError") vp) (ofString "__init__") ap p K.env ov ([a,b].length+0) (backTo p (starEach [a,b] K.env)) []) _ _
 refine ae (RQ g (Pt.d5 ?_));unfold methodCall;rw[Jp hs.star (by decide:2<20)];have Q9:methodCallPos true (.Name (ofString "ValueError") vp) K.env ap p=pure p:=by
  unfold methodCallPos;rw[hp,cW];rfl
 refine ae (bF (EB (K:=K.F.K) (K.F.X.keeps K.R.stays) ?_))
 dsimp only
 rw[Q9];refine ae (ax (K.tok _ (mE hs (P:=λvs h=>vs=[.ref x,w]/\h=K.H) ?_ ⟨λvs n q=>⟨mC (Looks.of_pure rfl),?_⟩⟩)))
 ·show fP K.sp K.F.tb K.ρ _ K.H _ X
  rw[hρ];exact⟨rfl,rfl⟩
 ·obtain⟨ev,eh⟩:=q
  cases vs with
  |nil=>cases ev|cons v r=>cases r with
   |nil=>exact nomatch(List.cons.inj ev).2|cons u r=>
    cases yS (List.cons.inj ev).1;cases List.map_eq_nil_iff.mp (List.cons.inj (List.cons.inj ev).2).2;exact Pt.weak (RP (K:=n.p) (X:=X) (v:=u) ((congrFun eh x).trans hx)) λ_ h (q:h=n.H.set x (.exc true))=>q.trans (ak (Hp.set · x (.exc true)) eh)
end
section
variable{P:Program×World}{base:Heap}{os:OsState}{H:Hp}{h h':Heap}{s:Shared}{a:Addr}{o o':MO}{FA:bJ}
def Rel.put2(R:Rel P base os H s)(ha:H a=some o)(hm:o.mut=true)(k:∀b ob,s.heap.get? b=some ob->b≠a->h'.get? b=some ob)(ho:je P h' a o')(tk:Nat):Rel P base os (H.set a o') {s with heap:=h',toks:=tk}:=
 ⟨λb m e=>(Hp.jY e).elim (λz=>by rw[z.1,<-z.2];exact ho) λz=>(R.objs b m z.2).kept λob q=>k b ob q z.1,
  λb m e q=>(Hp.jY e).elim (λz=>by rw[z.1];exact R.own a o ha hm) λz=>R.own b m z.2 q,
  λb ob e=>k b ob (R.stays b ob e) λz=>aI (R.own b o (z▸ha) hm) e,R.gens,R.os⟩
def Ext.put2(FA:bJ)(ha:H a=some o)(hm:o.mut=true)(k:∀b ob,h.get? b=some ob->b≠a->h'.get? b=some ob):Ext FA H h (H.set a o') h':=
 ⟨λb ob e q=>.of (k b ob e λz=>Bool.noConfusion (hm.symm.trans (q o (z▸ha)))),
  λb m e q=>(Hp.bj λz=>by rw[z,ha]at e;obtain rfl:=ar e;rw[hm]at q;exact Qu q).trans e,λb e=>Hp.qE e,
  λb e=>.inl ((Hp.qF e).elim (λz=>by rw[z];exact jC ha) id)⟩
end
section
variable{c:Sc}{x:Addr}{w:Value}{X:bA}{bd:List Stmt}
def F6{K:Pt}{v:Value}(hx:K.H x=some (.exc true)):K.Wp (setAttr (.ref x) (ofString "reason") v) (λj h=>h=K.H.set x (.exc false)) X:=by
 obtain⟨oe,vs,a0,ho,hc,hd,h0,h1,hn⟩:=K.R.objs x _ hx;exact CE (K.F.X.keeps K.R.stays) (K.F.bad.keeps K.R.stays) K.F.JM ho hc hd (hn rfl) K.F.Qy K.F.JL λh' dx nd ndx k VV=>⟨_,rfl,K.R.put2 (o':=.exc false) hx rfl k ⟨_,vs,a0,VV,hc,hd,h0,h1,(λe=>iM e)⟩ _,Ext.put2 _ hx rfl k⟩
def vr{i:Nat}{n:Str}{p:Pos}(h:yR c i n):SE c (.loc i) (.Name n p):=O0 h.1 h.2.1 h.2.2
def zM{n:Str}{p:Pos}:CP (.Name n p):=⟨λj j j=>rfl,λj j=>rfl⟩
abbrev XS(P:bA):Flow->aS->Hp->Prop:=λf j h=>f=.next/\P h
def abF{K:Kb c}{a b:Expr}{vp p ap ep:Pos}(hp:ap.endLine=p.line)(g:c.names.lookup (ofString "ValueError")=some .globalImplicit)(hs:D9 c (.cons (.loc 0) (.cons (.loc 1) .nil)) [a,b])(hρ:K.ρ=args JJ [.ref x,w])(hx:K.H x=some (.exc true)):
  K.W (exec (.Expr (.Call (.Attribute (.Name (ofString "ValueError") vp) (ofString "__init__") ap) [a,b] [] p) ep) K.env) (λf ρ h=>f=.next/\ρ=K.ρ/\h=K.H.set x (.exc true)) X:=by
 rw[exec_Expr K.env _ ep K.hb.tY rfl];exact Kb.d5 (K.nQ (Dk (K:=K.toKt) hp g hs hρ hx) λv n w=>wpAny_dropValue ((K.at (K.ne n)).here ⟨rfl,rfl,w⟩))
def abG{K:Kb c}{s2 r3:Str}{sq p2 p3 q:Pos}(h2:yR c 0 s2)(h3:yR c 1 r3)(hρ:K.ρ=args JJ [.ref x,w])(hx:K.H x=some (.exc true)):
  K.W (exec (.Assign [.Attribute (.Name s2 sq) (ofString "reason") p2] (.Name r3 p3) q) K.env) (XS λh=>h=K.H.set x (.exc false)) X:=by
 rw[iX _ _ q K.env rfl];refine Kb.d5 (K.nQ (P:=λj h=>h=K.H) (vr h3 K.toKt (λj h=>h=K.H) X ?_) λv n w=>?_)
 ·show lL K.ρ[1]? _
  rw[hρ];exact rfl
 rw[show swappedStores [.Attribute (.Name s2 sq) (ofString "reason") p2] (.Name r3 p3) K.env=pure none from rfl];refine ae (ax ?_);have hx:n.H x=some (.exc true):=(congrFun w x).trans hx;rw[<-w];show(K.at (K.ne n)).W (do(do let ov<-holding [v] (eval (.Name s2 sq) K.env);standAt p2.atName;holding [v,ov] (setAttr ov (ofString "reason") v);release [v,ov] []);pure Flow.next) _ _
 refine(K.at (K.ne n)).nQ (P:=λj h=>h=n.H.set x (.exc false)) ((K.at (K.ne n)).toKt.seq (P:=λv h=>v=.ref x/\h=n.H) (Pt.hold (vr h2 (K.at (K.ne n)).toKt _ X ?_)) λu m q=>Pt.d5 ?_) λj m q=>Kb.pure ⟨rfl,q⟩
 ·show lL K.ρ[0]? _
  rw[hρ];exact⟨rfl,rfl⟩
 ·cases yS q.1;refine m.p.seq (P:=λj h=>h=m.H.set x (.exc false)) (Pt.hold (F6 (K:=m.p) ((congrFun q.2 x).trans hx))) λj m2 e=>wpAny_release (m2.p.here ?_);exact e.trans (ak (Hp.set · x (.exc false)) q.2)
def F7{K:Kb c}(ib:rI c bd)(hρ:K.ρ=args JJ [.ref x,w])(hx:K.H x=some (.exc true)):K.W (execs bd K.env) (Fw (Rt λv h=>v=.none/\h=(K.H.set x (.exc true)).set x (.exc false))) X:=by
 cases ib with
 |mk vp ap s sp r rp p ep s2 sq p2 r3 p3 q hp g ls lr ls2 lr3=>
  refine wpAny_execs_cons (K.mono (abF hp g (vf zM (vr ls) (vf zM (vr lr) E6)) hρ hx) (λf n w=>?_) λj j q=>q);obtain⟨rfl,e1,e2⟩:=w;refine wpAny_execs_cons (aJ (abG (K:=K.at n) ls2 lr3 (e1.trans hρ) ((congrFun e2 x).trans Hp.set_same)) (λf s w=>?_) λj j q=>n.exc q);obtain⟨ρ',H',⟨rfl,e3⟩,R,y,b⟩:=w;exact wpAny_execs_nil (n.post ⟨ρ',H',⟨rfl,e3.trans (ak (Hp.set · x (.exc false)) e2)⟩,R,y,b⟩)
end
section
variable{M:Model}{A:Around}{E:gp}{s:Shared}{env:Env}
inductive zN(E:gp):Value->bW
 |mk (e oe vs s):hO s.heap->s.heap.get? e=some oe->oe.cls=.ref 52->oe.data=.fields vs->vs[1]? =some .none->E (.ref e) s->zN E (.ref e) s
def Dl{x:Sem Value}{Q:Flow->bW}(hh:A.handled=none)(h:wpAny M A x (zN E) E s):wpAny M A (raiseStmt env (some x) none) Q E s:=by
 have Wn:=cB;unfold raiseStmt;refine ae (aJ h (λv s₁ h₁=>?_) λj j x=>x);obtain⟨e,oe,vs,_,hC,he,D8,hdt,hv1,hE⟩:=h₁;obtain⟨oc,od,odt,osl⟩:=oe
 dsimp only at D8 hdt
 subst D8 hdt;obtain⟨hp,g,d,tk,os⟩:=s₁;obtain⟨nm,q,N,bs,rG,sn,sub,ab,Ew,dd,k0,k1,k2,k3,k5,hC⟩:=hC
 repeat(first|with_reducible refine wpAny_loadPart_at he ?_|with_reducible refine wpAny_loadPart_at hC ?_|(with_reducible refine wpAny_isSubtype_exc hC ?_;rw[Wn])|wp_step)
 rw[hv1];refine ax ?_;rw[aB aP];exact ax (wpAny_raiseNew_none hh hE)
end
def Dm{F:Fix}{h:Heap}(hC:hO h):Looks F.M h (keeperOf (.ref 52)) .machine:=by
 intro A Q E s k q;obtain⟨hp,g,d,tk,os⟩:=s;obtain⟨nm,q',N,bs,rG,sn,sub,ab,Ew,dd,k0,k1,k2,k3,k5,hC⟩:=hC;exact wpAny_keeperOf_exc (k _ _ hC) q
section
variable{K:Pt}{X:bA}{v:Value}
def abH:Spec:=λj j j j j=>False
def RS(K:Pt)(v:Value):∃n:Nx K,n.H=K.H.set (K.s.heap.objs.size+1) (.exc true)/\n.s={K.s with heap:=(K.s.heap.push (fV [v])).push (kK K.s.heap.objs.size)}:=by
 have e:K.s.heap.objs.size+1=(K.s.heap.push (fV [v])).objs.size:=(Heap.size_push ..).symm;have k:∀b o,K.s.heap.get? b=some o->(K.s.heap.push (fV [v])).get? b=some o:=λb o z=>cU _ z;have R1:K.F.R K.H {K.s with heap:=K.s.heap.push (fV [v])}:=K.R.more K.s.toks k
 have ro:je (K.F.prog,K.F.w) ((K.s.heap.push (fV [v])).push (kK K.s.heap.objs.size)) (K.s.heap.push (fV [v])).objs.size (.exc true):=⟨_,_,_,fa _ rfl,rfl,rfl,rfl,rfl,λj=>rfl⟩
 rw[e];exact⟨⟨_,_,Rel.alloc R1 _ (.exc true) ro K.s.toks,(Ext.more _ k).trans (Ext.alloc R1 _ _ (.exc true) ro)⟩,rfl,rfl⟩
def RT(H:Hp)(x:Addr)(h:Hp):Prop:=h=(H.set x (.exc true)).set x (.exc false)
inductive XT(K:Pt)(v:Value)(h:Hp):Prop
 |mk (x):v=.ref x->K.s.heap.get? x=none->RT K.H x h->XT K v h
def set_set{H:Hp}{x:Addr}{a b:MO}:(H.set x a).set x b=H.set x b:=by
 funext z
 by_cases e:z=x
 ·rw[e,Hp.set_same,Hp.set_same]
 ·rw[Hp.bj e,Hp.bj e,Hp.bj e]
def XU(K:Pt)(lo:1<=K.N):K.A.depth+1+2*0<=978:=by have:=K.hd;lia
def RU(K:Pt)(lo:1<=K.N):K.A.depth+1+1+2*0<=978:=by have:=K.hd;lia
def XW(K:Pt)(lo:1<=K.N):K.A.units+1+50*0<=9750:=by have:=K.hu;lia
def RV(K:Pt)(lo:1<=K.N):K.A.units+1+3+50*0<=9750:=by have:=K.hu;lia
def F8(lo:1<=K.N):K.Wp (call (.ref 52) [v]) (XT K) X:=by
 obtain⟨n,e1,e2⟩:=RS K v;have nx:K.s.heap.get? (K.s.heap.objs.size+1)=none:=nK (Nat.le_succ _);obtain⟨fd,bd,I,ib⟩:=K.F.Wz;refine wpAny_call (Ey (K.F.X.keeps K.R.stays) (K.F.bad.keeps K.R.stays) (by decide:1<=100) K.F.JK K.F.Wy ?_)
 show codeAny _ _ _ _ {K.s with heap:=_}
 rw[<-e2];refine codeAny_mono (xf (K:=⟨K.F,K.A.under (.builtin "type.__call__" ⟨.ref 52::[v],[]⟩),K.fr,n.H,n.s,0,n.R,n.p.hf.under rfl,XU K lo,XW K lo⟩) (X:=X) (Q:=λu h=>u=.none/\RT n.H (K.s.heap.objs.size+1) h) (vs:=[.ref (K.s.heap.objs.size+1),v]) (sp:=abH) (N:=0) I (λj j j j j j j j j j j j j w=>w.elim) (RU K lo) (RV K lo) (by decide:2<=2) (by decide:2<=3)
  λe j j=>F7 (K:=e.k) (x:=K.s.heap.objs.size+1) ib rfl ((congrFun e1 _).trans Hp.set_same)) λr s' hr=>hr.fl (λu p=>?_) λj p=>n.exc p
 obtain⟨H',q,R',x'⟩:=p;cases uY q.1;exact⟨rfl,H',⟨_,rfl,nx,q.2.trans (by show(n.H.set _ _).set _ _=_;rw[e1,set_set])⟩,R',n.x.trans x'⟩
end
section
variable{P:Program×World}{base:Heap}{os:OsState}{H H' H1:Hp}{h h':Heap}{s:Shared}{x:Addr}{FA:bJ}
def Rel.less(R:Rel P base os H s)(k:∀a m,H1 a=some m->H a=some m):Rel P base os H1 s:=⟨λa m e=>R.objs a m (k a m e),λa m e q=>R.own a m (k a m e) q,R.stays,R.gens,R.os⟩
def Ext.less(y:Ext FA H h H' h')(nH:H x=none)(n1:H1 x=none)(RX:∀a,a≠x->H' a=H1 a):Ext FA H h H1 h':=
 ⟨y.rest,λa m e q=>(RX a λz=>aI nH (z▸e)).symm.trans (y.same a m e q),λa e=>(RX a λz=>e (z▸nH))▸y.ym a e,λa e=>y.fresh a ((RX a λz=>e (z▸n1)).symm▸e)⟩
def lF.less{F:Fix}{env:Env}{fr:List Env}{c:Sc}{ρ:aS}(b:lF F env fr c ρ H h)(k:∀a,H a=none->H1 a=none):lF F env fr c ρ H1 h:=
 ⟨b.frame,b.kind,b.knd,b.glob,b.blt,k _ b.off,b.new,b.ns,λy i e q=>by
  cases b.cells y i e q with
  |mk a v' e n q z w=>exact⟨a,v',e,k a n,q,z,w⟩⟩
end
inductive Lb(K:Pt)(X:bA)(u:Value)(h:Hp):Prop
 |mk (x H1):u=.ref x->K.s.heap.get? x=none->H1 x=none->X H1->RT H1 x h->Lb K X u h
section
variable{c:Sc}{X:bA}{e:E}{x:Expr}
def F9{K:Pt}{n:Nx K}{v:Value}(lo:1<=K.N)(q:X n.H){Y:bA}:n.p.Wp (call (.ref 52) [v]) (Er (Lb K X)) Y:=
 Pt.weak (F8 (K:=n.p) lo) λu h b=>by
  cases b with
  |mk x e nx b=>subst e;exact⟨x,n.H,rfl,gw n.R n.x nx,n.R.fresh nx,q,b⟩
def zO{K:Kb c}{u:Value}{n:Nx K.toPt}(b:Lb K.toPt X (er u) n.H):zN (K.Exc X) u n.s:=by
 obtain⟨x,H1,e,nx,n1,q,b⟩:=b;cases yS e;have hx:n.H x=some (.exc false):=(congrFun b x).trans Hp.set_same;have RX:∀a,a≠x->n.H a=H1 a:=λa z=>(congrFun b a).trans ((Hp.bj z).trans (Hp.bj z));obtain⟨oe,vs,a0,ho,hc,hd,h0,h1,hn⟩:=n.R.objs x _ hx;refine⟨x,oe,vs,n.s,K.F.bad.keeps n.R.stays,ho,hc,hd,h1,K.ρ,H1,q,n.R.less λa m e=>(RX a λz=>aI n1 (z▸e)).trans e,(n.x.less (K.R.fresh nx) n1 RX).toL _ λa ha=>(K.ho a ha).1,?_,(K.hb.ext n.x).less ?_⟩
 ·exact⟨x,oe,vs,_,_,nx,n1,ho,hc,hd,h0,.inl h1⟩
 ·exact λa na=>is_none λm e=>aI na ((RX a λz=>aI n1 (z▸e)).trans e)
def RY{K:Kt c}(hk:c.names.lookup (ofString "BadRows")=some .globalImplicit){p:Pos}{Q:gp}{E:gp}(h:Q (.ref 52) K.s):wpAny K.F.M K.A (eval (.Name (ofString "BadRows") p) K.env) Q E K.s:=
 mD hk (.inl pX) pX h
def Ga{np cp p:Pos}(hk:c.names.lookup (ofString "BadRows")=some .globalImplicit)(xo:CP x)(h:SE c e x):SS c (.f9 e) (.Raise (some (.Call (.Name (ofString "BadRows") np) [x] [] cp)) none p):=λK lo Q X w=>by
 show wpAny K.F.M K.A (do standAt p;raiseStmt K.env (some (do let v<-eval (.Call (.Name (ofString "BadRows") np) [x] [] cp) K.env;standAt p;pure v)) none) _ _ K.s
 refine ae (fb (Dl K.hf.handled (ae (wpAny_Call_ofName (RY (K:=K.toKt) hk ?_)))));refine K.monoE (mE (vf xo h E6) (K:=K.toKt) (P:=λvs h=>sY vs λv=>onStr v λj=>X h) (Q:=Lb K.toPt X) (X:=λj=>False) w ⟨λvs n q=>⟨mC (Dm (K.F.bad.keeps n.R.stays)),?_⟩⟩) (λu n b=>ae (fb (ax (zO b)))) λj j q=>by cases q with|mk _ _ q=>exact q.elim
 exact jE (C:=λvs=>n.p.Wp (call (.ref 52) ([]++vs)) _ _) q λv q=>isStr (C:=λj=>_) q λj j q=>F9 lo q
end
section
variable{c:Sc}{X:bA}{b:S}{body:List Stmt}{F:Fix}{A:Around}{env:Env}{fr:List Env}{ρ:aS}{H H1:Hp}{h:Heap}{s:Shared}
def Gb(hb:lF F env fr c ρ H h)(R:F.R H1 s)(hk:c.names.lookup (ofString "BadRows")=some .globalImplicit){p:Pos}{Q:gp}{E:gp}(q:Q (.ref 52) s):wpAny F.M A (eval (.Name (ofString "BadRows") p) env) Q E s:=by
 have hg:s.heap.Ns env.globals F.mg:=by rw[hb.glob];exact F.hg.keeps R.stays
 exact Name_function_global hb.kind ((hb.knd _ _ hk).2.1 rfl) (loadGlobal_global hg (F.gl (ofString "BadRows") (.ref 52) pX) q) pX
inductive V1(K:Kb c)(X:bA):Value->bW
 |mk (x a0 T fl s ρ' H'):X H'->K.F.R H' s->e8 (own K.env) (nL K.fr) K.H K.s.heap H' s.heap->fW K.s.heap H' x->fW K.s.heap H' T->rR s.heap x (.ref 52) (some a0) T fl->lF K.F K.env K.fr c ρ' H' s.heap->V1 K X (.ref x) s
def Kb.cau{K:Kb c}{e:Value}(p:K.Exc X e s)(tr:Traced e s.heap):V1 K X e s:=by
 obtain⟨ρ',H',q,R,y,I,hb⟩:=p;obtain⟨e0,gP,L,ef,h0⟩:=vi K.hf K.hb.frame.1;have hL:K.fr.head?.bind (·.frame)=some L:=by rw[ef];exact h0
 cases tr with
 |mk x cls b0 T fl _ tr=>cases I.seen hL with
  |mk _ a0 T? nx ti nT=>
   obtain⟨rfl,rfl,rfl⟩:=ti.same tr;exact⟨x,a0,T,fl,s,ρ',H',q,R,y,nx,nT T rfl,tr,hb⟩
def V1.fly{K:Kb c}{e:Value}{Q:Jo}{E:gp}{fr:dz}{M:Model}{A:Around}(p:V1 K X e s)(k:∀s',V1 K X e s'->Q () s'):wpAny M A (setFlight e fr) Q E s:=by
 cases p with
 |mk x a0 T fl _ ρ' H' q R y nx nT tr hb=>
  refine nR tr λh3 tr3 k3=>k _ ?_;have b3:O5 (nL K.fr) x (some T) s.heap h3:=λb o e n1 n2=>.of (k3 b o e λz=>n2 (by rw[z]));exact⟨x,a0,T,_,_,ρ',H',q,qI R (K.hf.vg y) b3 ⟨cK K.R nx.1,nx.2⟩ (λT' z=>by obtain rfl:=ar z;exact⟨cK K.R nT.1,nT.2⟩),qH y b3 nx.1 (λT' z=>by cases z;exact nT.1),nx,nT,tr3,vj hb b3 nx.1 (λT' z=>by cases z;exact nT.1)⟩
def RZ{np kp rp hp p:Pos}{k:Nat}(hk:c.names.lookup (ofString "BadRows")=some .globalImplicit)(hb:wQ c b body):SS c (.nJ b) (.Try body [.ExceptHandler (some (.Name (ofString "BadRows") np)) none [.Return (some (.Constant .none k kp)) rp] hp] [] [] p):=λK lo Q X w=>by
 refine wpAny_Try_except (aJ (hb K lo Q _ w) (λf s1 h1=>?_) λe s1 h1=>?_)
 ·cases f with
  |next=>exact wpAny_execs_nil h1
  |_=>exact h1
 ·refine Kb.Ff (E:=λe s2=>wpAny K.F.M K.A (setFlight e none) (λj s₃=>wpAny K.F.M K.A (handleBy e K.env _) _ _ s₃) _ s2) h1 λe s2 p tr=>(Kb.cau p tr).fly λs3 p3=>?_
  cases p3 with
  |mk x a0 T fl _ ρ' H' q R y nx nT tr hb'=>
   refine wpAny_handleBy_cons (codeAny_handlers_test ?_) (by intro q;cases q);refine Gb K.hb R hk ?_;obtain⟨oe,vs,oT,ts,y1,y2,y3,y4,y5,y6,y7,y8,y9⟩:=id tr;obtain⟨nm,q',N',bs,rG,sn,abr,ab,Ew,dd,k0,k1,k2,k3',k5,hC⟩:=K.F.bad.keeps R.stays;refine wpAny_excMatches_sub_self hC y1 y2 bB (codeAny_handlers_suite ?_);refine V1.fly (X:=λh'=>Q (.ret .none) h') ⟨x,a0,T,fl,s3,ρ',H',q,R,y,nx,nT,tr,hb'⟩ λs4 p4=>?_;refine wpAny_execs_cons (wpAny_Return_some (wpAny_Constant_none ?_))
   cases p4 with
   |mk _ _ _ _ _ ρ2 H2 q2 R2 y2 _ _ _ b2=>exact⟨ρ2,H2,q2,R2,y2,b2⟩
end
abbrev Rs{M:Type}(P:M->Prop):Type:=Option (Nat×{m//P m})
noncomputable def yes{M:Type}{P:M->Prop}(k:Nat)(m:M)(h:P m):Rs P:=some (k,⟨m,h⟩)
def fS{α:Type}{M:Type}{P:M->Prop}(r:Rs P)(f:∀m,Nat->P m->Option α):Option α:=Option.rec (motive:=λj=>Option α) none (λv=>f v.2.1 v.1 v.2.2) r
def zP{α:Type}(b:Bool)(k:b=true->Option α):Option α:=Bool.rec (motive:=λb=>(b=true->Option α)->Option α) (λj=>none) (λk=>k rfl) b k
def R7{α β:Type}(o:Option β)(k:∀v,o=some v->Option α):Option α:=Option.rec (motive:=λo=>(∀v,o=some v->Option α)->Option α) (λj=>none) (λv k=>k v rfl) o k
def mT{α β:Type}{P:β->Prop}(o:Option {v//P v})(k:∀v,P v->Option α):Option α:=Option.rec (motive:=λj=>Option α) none (λv=>k v.1 v.2) o
def lV{α:Type}(p:Prop)[d:Decidable p](no:α)(k:p->α):α:=Decidable.rec (motive:=λj=>α) (λj=>no) k d
structure PE(c:Sc)(x:Expr)(m:E):Prop where
 e:SE c m x
 t:ST c m x
 o:CP x
structure PC(c:Sc)(j3:List CmpOp)(xs:List Expr)(m:E):Prop where
 e:SC c m j3 xs
 n:m.isNil=false
 o:j3≠[]
abbrev PD(c:Sc)(keys:List (Option Expr))(xs:List Expr)(q:aF×E):Prop:=DK c q.1 q.2 keys xs
noncomputable def um(x:Expr):Option {q:Str×Pos//x=.Name q.1 q.2}:=by
 cases x with
 |Name n p=>exact some ⟨(n,p),rfl⟩|_=>exact none
noncomputable def abI(x:Option Expr):Option {q:Str×Nat×Pos//x=some (.Constant (.str q.1) q.2.1 q.2.2)}:=by
 cases x with
 |none=>exact none|some x=>cases x with
  |Constant v k p=>cases v with
   |str s=>exact some ⟨(s,k,p),rfl⟩|_=>exact none
  |_=>exact none
noncomputable def Gd:List At:=[.op,.a,.b,.c,.line,.sort,.first,.last,.target,.depth,.kind,.name,.params,.slots,.rows,.hY,.children,.starts,.number,.code,.seen,.gF,.waiting]
def atV(n:Str):Option {a:At//a.str=n}:=List.rec (motive:=λj=>Option {a:At//a.str=n}) none (λa j ih=>lV (a.str=n) ih λh=>some ⟨a,h⟩) Gd
def meV(n:Str):{a:Me//a.str=n}:=List.rec (motive:=λj=>{a:Me//a.str=n}) ⟨.own n,rfl⟩ (λa j ih=>lV (a.str=n) ih λh=>⟨a,h⟩) [Me.append,.extend,.pop,.insert,.get]
section
variable{c:Sc}{x:Expr}{xs:List Expr}{p:Pos}
abbrev Rec:Type:=∀(c:Sc)(x:Expr),Nat->Rs (PE c x)
def glb{n:Str}(h:OV (c.names.lookup n)=true):c.names.lookup n=some .globalImplicit:=by
 cases e:c.names.lookup n with
 |none=>rw[e]at h;exact iM h|some k=>rw[e]at h;cases k<;>first|rfl|exact iM h
def PE.nm{n:Str}{m:E}(h:SE c m (.Name n p)):PE c (.Name n p) m:=⟨h,zb h λj j=>rfl,zM⟩
def PE.ct{v:Const}{kk:Nat}{m:E}(h:SE c m (.Constant v kk p))(t:∀env whole,isTrue (.Constant v kk p) env whole=(do let v<-whole;standAt p;holding [v] (truthy v))):PE c (.Constant v kk p) m:=⟨h,zb h t,⟨λj j j=>rfl,λj j=>rfl⟩⟩
def eName(c:Sc)(n:Str)(p:Pos)(k:Nat):Rs (PE c (.Name n p)):=
 zP (eP n) λh1=>lV (Et (c.names.lookup n)=true)
  (zP (OV (c.names.lookup n)) λhg=>Option.rec (motive:=λo=>gM.lookup n=o->Rs (PE c (.Name n p)))
   (λe=>R7 (kJ.lookup n) λv hv=>yes k (.glob v) (.nm (E5 h1 (glb hg) (.inr ⟨e,hv⟩))))
   (λv e=>yes k (.glob v) (.nm (E5 h1 (glb hg) (.inl e)))) (gM.lookup n) rfl)
  λh2=>R7 (c.im.lookup n) λi h3=>yes k (.loc i) (.nm (O0 h1 h2 h3))
def R8(c:Sc)(v:Const)(kk:Nat)(p:Pos)(k:Nat):Rs (PE c (.Constant v kk p)):=by
 cases v with
 |none=>exact yes k _ (.ct Q2 λj j=>rfl)|bool b=>exact yes k _ (.ct Kh λj j=>rfl)|int b=>exact yes k _ (.ct W4 λj j=>rfl)|str b=>exact yes k _ (.ct W5 λj j=>rfl)|_=>exact none
def esR(r:Rec)(c:Sc)(xs:List Expr):Nat->Rs (D9 c · xs):=List.rec (motive:=λxs=>Nat->Rs (D9 c · xs)) (λk=>yes k _ E6)
 (λx xs ih k=>fS (r c x k) λm k e=>fS (ih k) λms k es=>yes k _ (vf e.o e.e es)) xs
def XX{op:BoolOp}{y:Expr}{m ms:E}(k:Nat)(e:PE c x m)(es:SB c op ms (y::xs)):Rs (SB c op · (x::y::xs)):=by
 cases op with
 |And=>exact yes k _ (W3 e.e e.t es)|Or=>exact yes k _ (abx e.e e.t es)
def bR(r:Rec)(c:Sc)(op:BoolOp)(xs:List Expr):Nat->Rs (SB c op · xs):=List.rec (motive:=λxs=>Nat->Rs (SB c op · xs)) (λk=>none)
 (λx xs ih k=>show Rs (SB c op · (x::xs))from fS (r c x k) λm k e=>show Rs (SB c op · (x::xs)) by
  cases xs with
  |nil=>exact yes k m (W2 e.e e.t)|cons y ys=>exact fS (ih k) λms k es=>XX k e es) xs
def Bj{α:Type}{a:α}{l:List α}:a::l≠[]:=nofun
def cR(r:Rec)(c:Sc)(xs:List Expr):∀j3,Nat->Rs (PC c j3 xs):=List.rec (motive:=λxs=>∀j3,Nat->Rs (PC c j3 xs)) (λj j=>none)
 (λx xs ih j3 k=>show Rs (PC c j3 (x::xs))from fS (r c x k) λm k e=>show Rs (PC c j3 (x::xs)) by
  cases j3 with
  |nil=>exact none|cons op j3=>
   cases xs with
   |nil=>cases j3 with
    |nil=>exact yes k _ ⟨Ra e.e,rfl,Bj⟩|cons _ _=>exact none
   |cons y ys=>exact fS (ih j3 k) λms k es=>yes k _ ⟨Rb e.e es.e es.n es.o,rfl,Bj⟩) xs
def oR(r:Rec)(c:Sc)(x:Option Expr)(k:Nat):Rs (SO c · x):=by
 cases x with
 |none=>exact yes k _ Q5|some x=>exact fS (r c x k) λm k e=>yes k m (Q6 e.e)
def Lc{e:E}{k:Str×Nat×Pos}{y:Option Expr}{ks:aF}{es:E}{keys:List (Option Expr)}(q:y=some (.Constant (.str k.1) k.2.1 k.2.2))(h:SE c e x)(d:DK c ks es keys xs):DK c (k.1::ks) (.cons e es) (y::keys) (x::xs):=by subst q;exact .cons _ _ _ _ _ _ _ _ _ h d
def dR(r:Rec)(c:Sc)(xs:List Expr):∀keys,Nat->Rs (PD c keys xs):=List.rec (motive:=λxs=>∀keys,Nat->Rs (PD c keys xs))
 (λkeys k=>by
  cases keys with
  |nil=>exact yes k ([],.nil) .nil|cons _ _=>exact none)
 (λx xs ih keys k=>show Rs (PD c keys (x::xs))from fS (r c x k) λm k e=>show Rs (PD c keys (x::xs)) by
  cases keys with
  |nil=>exact none|cons y keys=>exact fS (ih keys k) λms k d=>mT (abI y) λs q=>yes k (s.1::ms.1,.cons m ms.2) (Lc q e.e d)) xs
def iR(r:Rec)(c:Sc)(x:Expr)(k:Nat):Rs (SI c · x):=by
 have other:Rs (SI c · x):=fS (r c x k) λm k e=>yes k _ (Xu e.e)
 cases x with
 |Call f args XY p=>
  cases args with
  |nil=>exact other|cons y ys=>cases ys with
   |cons _ _=>exact other|nil=>cases XY with
    |cons _ _=>exact other|nil=>exact Option.rec (motive:=λj=>Rs (SI c · (.Call f [y] [] p))) other (λq=>
     lV (q.1.1=ofString "range"/\c.names.lookup (ofString "range")=some .globalImplicit)
      (lV (q.1.1=ofString "enumerate"/\c.names.lookup (ofString "enumerate")=some .globalImplicit) other
       λh=>fS (r c y k) λm k e=>yes k _ (by rw[q.2,h.1];exact Ru h.2 e.o e.e))
      λh=>fS (r c y k) λm k e=>yes k _ (by rw[q.2,h.1];exact KP h.2 e.o e.e)) (um f)
 |_=>exact other
end
noncomputable def fdV(x:Expr):Option {u:Unit//∀env v,foldedSetIterable x env v=pure v}:=by cases x<;>first|exact some ⟨(),λj j=>rfl⟩|exact none
def Ge(ys:List Expr):Option {ns:aF//TN ns ys}:=List.rec (motive:=λys=>Option {ns:aF//TN ns ys}) (some ⟨[],.nil⟩)
 (λy ys ih=>show Option {ns:aF//TN ns (y::ys)}from mT (um y) λq e=>mT ih λns h=>some ⟨q.1::ns,by rw[e];exact .cons _ _ _ _ h⟩) ys
def nsR(c:Sc)(ns:aF):Option {is:aC//NS c ns is}:=List.rec (motive:=λns=>Option {is:aC//NS c ns is}) (some ⟨[],.nil⟩)
 (λn ns ih=>show Option {is:aC//NS c (n::ns) is}from lV (c.names.lookup n=some .local) none λh1=>zP (eP n) λh2=>R7 (c.im.lookup n) λi h3=>mT ih λis h=>some ⟨i::is,.cons _ _ _ _ h1 h2 h3 h⟩) ns
inductive TgV(y:Expr)(q:aF×Bool):Prop
 |mk:(∀c is,NS c q.1 is->pF c y is q.2)->TgV y q
def TgV.at{y:Expr}{q:aF×Bool}(h:TgV y q){c:Sc}{is:aC}(n:NS c q.1 is):pF c y is q.2:=by
 cases h with
 |mk z=>exact z c is n
def tgV(y:Expr):Option {q:aF×Bool//TgV y q}:=by
 cases y with
 |Name n p=>exact some ⟨([n],true),⟨λc is h=>by
  cases h with
  |cons _ i _ _ h1 h2 h3 h=>cases h;exact .one n p i h1 h3⟩⟩
 |Tuple ys k p=>exact mT (Ge ys) λns h=>some ⟨(ns,false),⟨λc is h'=>.many ns ys is k p h h'⟩⟩|_=>exact none
inductive XZ(c:Sc)(fp target iter:Expr)(jF:List Expr)(sc:Scope):E×aC×Bool×E×E->Prop
 |mk (ns iu tg one it cond):tA c ns tg sc->pF (c.kN ns tg sc) target tg one->(∀env v,foldedSetIterable iter env v=pure v)->SI c it iter->SF (c.kN ns tg sc) cond jF->SE (c.kN ns tg sc) iu fp->XZ c fp target iter jF sc (iu,tg,one,it,cond)
def ifR(r:Rec)(c:Sc)(jF:List Expr)(k:Nat):Rs (SF c · jF):=by
 cases jF with
 |nil=>exact yes k _ Xw|cons x xs=>cases xs with
  |nil=>exact fS (r c x k) λm k e=>yes k m (Xx e.t)|cons _ _=>exact none
noncomputable def slots(k:Nat)(ns:aF):aC:=(List.range ns.length).map (k+·)
def abJ(c:Sc)(ns:aF)(tg:aC)(sc:Scope):Option {u:Unit//tA c ns tg sc}:=
 zP (uW sc) λh1=>lV ((sc.names.map (·.1)).Nodup) none λh2=>lV (((c.kN ns tg sc).im.map (·.2)).Nodup) none λh3=>lV (((c.kN ns tg sc).im.map (·.1)).Nodup) none λh4=>zP (sc.names.all λp=>p.2!=.free||(c.names.lookup p.1==some .cell&&(c.im.lookup p.1).isSome)) λh5=>mT (nsR (c.kN ns tg sc) ns) λis h=>lV (is=tg) none λe=>some ⟨(),h1,h2,h3,h4,h5,by rw[e]at h;exact h⟩
def coR(r:Rec)(c:Sc)(fp target iter:Expr)(jF:List Expr)(sc:Scope)(k:Nat):Rs (XZ c fp target iter jF sc):=
 fS (iR r c iter k) λit k hi=>mT (fdV iter) λj fd=>mT (tgV target) λq ht=>mT (abJ c q.1 (slots k q.1) sc) λj o=>
  fS (ifR r (c.kN q.1 (slots k q.1) sc) jF (k+q.1.length)) λcond k2 hc=>fS (r (c.kN q.1 (slots k q.1) sc) fp k2) λiu k3 he=>yes k3 _ (.mk q.1 iu _ q.2 it cond o (ht.at o.ns) fd hi hc he.e)
section
variable{c:Sc}{x y:Expr}{xs:List Expr}{p:Pos}
def PE.pl{m:E}(h:SE c m x)(t:∀env whole,isTrue x env whole=(do let v<-whole;standAt x.pos;holding [v] (truthy v)))(o:CP x):PE c x m:=⟨h,zb h t,o⟩
def XZ.pe{fp target iter:Expr}{jF:List Expr}{sc:Scope}{q:E×aC×Bool×E×E}(h:XZ c fp target iter jF sc q):PE c (.ListComp fp [⟨target,iter,jF,0⟩] sc p) (.comp q.1 q.2.1 q.2.2.1 q.2.2.2.1 q.2.2.2.2):=by
 cases h with
 |mk ns iu tg one it cond o ht fd hi hc he=>exact .pl (RB o ht fd hi hc he) (λj j=>rfl) ⟨λj j j=>rfl,λj j=>rfl⟩
inductive X0(gens:List Comprehension)(q:Expr×Expr×List Expr):Prop
 |mk:gens=[⟨q.1,q.2.1,q.2.2,0⟩]->X0 gens q
def Pa(gens:List Comprehension):Option {q:Expr×Expr×List Expr//gens=[⟨q.1,q.2.1,q.2.2,0⟩]}:=by
 cases gens with
 |nil=>exact none|cons g gs=>cases gs with
  |cons _ _=>exact none|nil=>cases g with
   |mk t i f a=>exact lV (a=0) none λh=>some ⟨(t,i,f),by rw[h]⟩
noncomputable def X1(xs:List Expr):Option {q:Expr×Expr×Pos//xs=[q.1,.Starred q.2.1 q.2.2]}:=by
 cases xs with
 |nil=>exact none|cons x xs=>cases xs with
  |nil=>exact none|cons y ys=>cases ys with
   |cons _ _=>exact none|nil=>cases y with
    |Starred y p=>exact some ⟨(x,y,p),rfl⟩|_=>exact none
def X2(r:Rec)(c:Sc)(fp:Expr)(gens:List Comprehension)(sc:Scope)(p:Pos)(k:Nat):Rs (PE c (.ListComp fp gens sc p)):=
 mT (Pa gens) λq e=>fS (coR r c fp q.1 q.2.1 q.2.2 sc k) λm k h=>yes k _ (by rw[e];exact h.pe)
def eList(r:Rec)(c:Sc)(xs:List Expr)(p:Pos)(k:Nat):Rs (PE c (.List xs p)):=
 Option.rec (motive:=λj=>Rs (PE c (.List xs p))) (lV (xs.length<1000) none λl=>fS (esR r c xs k) λm k h=>yes k _ (.pl (Q3 h l) (λj j=>rfl) ⟨λj j j=>rfl,λj j=>rfl⟩))
  (λq=>fS (r c q.1.1 k) λm k e=>fS (r c q.1.2.1 k) λm2 k e2=>yes k _ (by rw[q.2];exact .pl (K3 e.o e.e e2.e) (λj j=>rfl) ⟨λj j j=>rfl,λj j=>rfl⟩)) (X1 xs)
def x_call{n:Str}{q:Pos}{args:List Expr}(h:eP n=true):CP (.Call (.Name n q) args [] p):=⟨λa env whole=>by
 cases args with
 |cons _ _=>rfl|nil=>
  unfold eP at h;rw[dr]at h;have e:(n !=("super":Str))=true:=h.2;exact av (c:=(n !=("super":Str)||a==("__class__":Str)||env.kindOf "super"!=some .globalImplicit||env.kindOf "__class__"!=some .free)=true) (by rw[e];rfl),λj j=>rfl⟩
def X3(r:Rec)(c:Sc)(f:Expr)(args:List Expr)(p:Pos)(k:Nat):Rs (PE c (.Call f args [] p)):=by
 cases f with
 |Attribute o n ap=>exact lV (ap.endLine=p.line) none λh1=>lV (args.length<20) none λh2=>fS (r c o k) λm k e=>fS (esR r c args k) λms k es=>yes k _ (by rw[<-(meV n).2];exact .pl (Q8 e.o h1 h2 e.e es) (λj j=>rfl) ⟨λj j j=>rfl,λj j=>rfl⟩)|Name n q=>exact zP (eP n) λh=>fS (r c (.Name n q) k) λm k e=>fS (esR r c args k) λms k es=>yes k _ (.pl (Q7 (λj=>rfl) e.e es) (λj j=>rfl) (x_call h))|_=>exact none
def X4(r:Rec)(c:Sc)(x:Expr)(n:Str)(p:Pos)(k:Nat):Rs (PE c (.Attribute x n p)):=
 fS (r c x k) λm k e=>lV (n=ofString "append") (mT (atV n) λa h=>yes k _ (by rw[<-h];exact .pl (Q4 e.o e.e) (λj j=>rfl) ⟨λj j j=>rfl,λj j=>rfl⟩))
  λh=>yes k _ (by rw[h];exact .pl (Kk e.o e.e) (λj j=>rfl) ⟨λj j j=>rfl,λj j=>rfl⟩)
def abK(r:Rec)(c:Sc)(x y:Expr)(p:Pos)(k:Nat):Rs (PE c (.Subscript x y p)):=by
 have other:Rs (PE c (.Subscript x y p)):=lV (isSlice y=false) none λh=>fS (r c x k) λm k e=>fS (r c y k) λm2 k e2=>yes k _ (.pl (W9 h e.e e2.e) (λj j=>rfl) ⟨λj j j=>rfl,λj j=>rfl⟩)
 cases y with
 |Slice lo hi st q=>cases st with
  |some _=>exact none|none=>exact fS (oR r c lo k) λml k el=>fS (oR r c hi k) λmh k eh=>fS (r c x k) λm k e=>yes k _ (.pl (Km e.e el eh) (λj j=>rfl) ⟨λj j j=>rfl,λj j=>rfl⟩)
 |_=>exact other
def eUn(r:Rec)(c:Sc)(op:UnaryOp)(x:Expr)(p:Pos)(k:Nat):Rs (PE c (.UnaryOp op x p)):=by
 cases op with
 |Not=>exact fS (r c x k) λm k e=>yes k _ ⟨WV e.e,WW e.t,⟨λj j j=>rfl,λj j=>rfl⟩⟩|USub=>exact fS (r c x k) λm k e=>yes k _ (.pl (WX e.e) (λj j=>rfl) ⟨λj j j=>rfl,λj j=>rfl⟩)|_=>exact none
def X5(r:Rec)(c:Sc)(op:BoolOp)(xs:List Expr)(p:Pos)(k:Nat):Rs (PE c (.BoolOp op xs p)):=by
 cases xs with
 |nil=>exact none|cons x xs=>cases xs with
  |nil=>exact none|cons y ys=>exact fS (bR r c op (x::y::ys) k) λm k h=>yes k _ ⟨QZ h,Q0 h,⟨λj j j=>rfl,λj j=>rfl⟩⟩
def X6(r:Rec):Rec:=λc x k=>by
 cases x with
 |BoolOp op vs p=>exact X5 r c op vs p k|BinOp l op y p=>exact fS (r c l k) λm k e=>fS (r c y k) λm2 k e2=>yes k _ (.pl (WY (op:=op) e.e e2.e) (λj j=>rfl) ⟨λj j j=>rfl,λj j=>rfl⟩)|UnaryOp op x p=>exact eUn r c op x p k|IfExp t a b p=>exact fS (r c t k) λm k e=>fS (r c a k) λm2 k e2=>fS (r c b k) λm3 k e3=>yes k _ ⟨WZ e.t e2.e e3.e,W0 e.t e2.t e3.t,⟨λj j j=>rfl,λj j=>rfl⟩⟩|Dict keys xs p=>exact lV (xs.length<1000) none λl=>fS (dR r c xs keys k) λq k d=>lV q.1.Nodup none λn=>yes k (.dict q.1 q.2) (.pl (RG d l n) (λj j=>rfl) ⟨λj j j=>rfl,λj j=>rfl⟩)|ListComp iu gens sc p=>exact X2 r c iu gens sc p k|Compare l j3 xs p=>exact fS (r c l k) λm k e=>fS (cR r c xs j3 k) λm2 k e2=>lV (lastMarks j3 xs=false) none λh=>yes k _ ⟨Xa e.e e2.e h,Xb e.e e2.e h,⟨λj j j=>rfl,λj j=>rfl⟩⟩|Call f args XY p=>cases XY with
  |nil=>exact X3 r c f args p k|cons _ _=>exact none
 |Constant v kk p=>exact R8 c v kk p k|Attribute x n p=>exact X4 r c x n p k|Subscript x y p=>exact abK r c x y p k|Name n p=>exact eName c n p k|List xs p=>exact eList r c xs p k|Tuple xs kk p=>exact lV (xs.length<1000) none λl=>fS (esR r c xs k) λm k h=>yes k _ (.pl (W8 h l) (λj j=>rfl) ⟨λj j j=>rfl,λj j=>rfl⟩)|_=>exact none
def X7(n:Nat):Rec:=Nat.rec (motive:=λj=>Rec) (λj j j=>none) (λj r=>X6 r) n
end
structure Plain(x:Expr):Prop where
 sw:∀t l env,swapsWith x t l env=pure false
 tp:∀ys k q env,swappedStores [.Tuple ys k q] x env=pure none
noncomputable def X8(x:Expr):Option {u:Unit//∀t l env,swapsWith x t l env=pure false}:=by cases x<;>first|exact some ⟨(),λj j j=>rfl⟩|exact none
def tpV(x:Expr):Option {u:Unit//∀ys k q env,swappedStores [.Tuple ys k q] x env=pure none}:=by cases x<;>first|exact some ⟨(),λj j j j=>rfl⟩|exact none
structure PT(c:Sc)(y:Expr)(m:T):Prop where
 g:VW c m y
 t:m.isTup=false
 s:∀x env,swappedStores [y] x env=pure none
section
variable{c:Sc}{x y:Expr}{ys:List Expr}{p q:Pos}
def tR(r:Rec)(c:Sc)(y:Expr)(k:Nat):Rs (PT c y):=by
 cases y with
 |Name n p=>exact zP (storeOk c n) λh=>R7 (c.im.lookup n) λi h2=>yes k (.name i) ⟨Kz h h2,rfl,λj j=>rfl⟩|Attribute x n p=>exact fS (r c x k) λm k e=>mT (atV n) λa h=>yes k (.attr m a) (by rw[<-h];exact⟨KA e.e,rfl,λj j=>rfl⟩)|Subscript x z p=>exact fS (r c x k) λm k e=>fS (r c z k) λm2 k e2=>yes k (.idx m m2) ⟨Rk e.e e2.e,rfl,λj j=>rfl⟩|_=>exact none
def tsR(r:Rec)(c:Sc)(ys:List Expr):Nat->Rs (Ri c · ys):=List.rec (motive:=λys=>Nat->Rs (Ri c · ys)) (λk=>yes k _ Rl)
 (λy ys ih k=>show Rs (Ri c · (y::ys))from fS (tR r c y k) λm k e=>fS (ih k) λms k es=>yes k _ (KC e.g es)) ys
def swR(ns:aF)(ys vs:List Expr):Option {u:Unit//SwOk ns ys vs}:=
 zP (ys.length==2||ys.length==3) λh1=>zP (vs.length==ys.length) λh2=>lV (vs.any isStar=false) none λh3=>zP (ys.all λy=>y.pos.line==(ys.head?.map (·.pos.line)).getD 0) λh4=>zP (ns.eraseDups.length==ns.length) λh5=>lV (vs.all (foldedForSure 8)=false) none λh6=>lV (vs.all (constantsAlone 8)=false) none λh7=>some ⟨(),h1,h2,h3,h4,h5,h6,h7⟩
def X9(r:Rec)(c:Sc)(ys:List Expr)(kk:Nat)(q:Pos)(vs:List Expr)(k':Nat)(q' p:Pos)(k:Nat):Rs (SS c · (.Assign [.Tuple ys kk q] (.Tuple vs k' q') p)):=
 fS (r c (.Tuple vs k' q') k) λm k e=>mT (Ge ys) λns hn=>mT (nsR c ns) λis hs=>mT (swR ns ys vs) λj o=>mT (X8 (.Tuple vs k' q')) λj sw=>lV is.Nodup none λnd=>zP (KD is).isTup λtt=>yes k _ (KI sw e.e hn hs o nd tt)
def Ya{α:Type}{a r:α}{c:Prop}[Decidable c](h:r=a):(if c then a else r)=a:=by
 by_cases z:c
 ·exact av z
 ·exact(aB z).trans h
def Yb{α β:Type}{f:α->Option β}{l:List α}(h:∃y∈l,f y=none):(l.filterMap f).length≠l.length:=by
 induction l with
 |nil=>exact h.elim λj z=>qP z.1|cons a l ih=>
  cases e:f a with
  |none=>rw[List.filterMap_cons_none e];exact Nat.ne_of_lt (Nat.lt_succ_of_le (List.length_filterMap_le _ _))|some b=>
   rw[List.filterMap_cons_some e];refine λz=>ih ?_ (Nat.succ.inj z);obtain⟨y,m,q⟩:=h
   cases m with
   |head=>rw[e]at q;exact zSN q|tail _ m=>exact⟨y,m,q⟩
def Gf(c:Sc)(y:Expr):Bool:=Option.rec (motive:=λj=>Bool) true (λq=>c.names.lookup q.1.1==some .cell) (um y)
def noName{K:Kb c}{l:Nat}(h:Gf c y=true):(match y with|.Name id pos=>(if K.env.kindOf id==some .local&&pos.line==l then some id else none)|_=>none)=none:=by
 cases y with
 |Name n p=>
  refine aB λz=>?_;have e:K.env.kindOf n=some .local:=eq_of_beq (dr _ _▸z).1;have h:(c.names.lookup n==some .cell)=true:=h;exact((K.hb.knd n _ (eq_of_beq h)).2.2 (.inl rfl)).elim (λq=>nomatch e.symm.trans q) λq=>nomatch e.symm.trans q
 |_=>rfl
def Dn{vs:List Expr}{k k':Nat}{q':Pos}{K:Kb c}(h:ys.any (Gf c)=true):swappedStores [.Tuple ys k q] (.Tuple vs k' q') K.env=pure none:=by
 obtain⟨y,m,n⟩:=List.any_eq_true.mp h;refine Ya (Ya (av ?_));rw[gg];exact .inl (bne_iff_ne.mpr (Yb ⟨y,m,noName n⟩))
def abL(r:Rec)(c:Sc)(ys:List Expr)(kk:Nat)(q:Pos)(x:Expr)(p:Pos)(k:Nat):Rs (SS c · (.Assign [.Tuple ys kk q] x p)):=by
 have other:Rs (SS c · (.Assign [.Tuple ys kk q] x p)):=fS (r c x k) λm k e=>mT (X8 x) λj sw=>mT (tpV x) λj tp=>fS (tsR r c ys k) λt k ht=>zP t.isTup λtt=>yes k _ (rQ sw (λK=>tp ys kk q K.env) tt e.e ht)
 cases x with
 |Tuple vs k' q'=>exact lV (ys.any (Gf c)=true) (X9 r c ys kk q vs k' q' p k) λh=>fS (r c (.Tuple vs k' q') k) λm k e=>mT (X8 (.Tuple vs k' q')) λj sw=>fS (tsR r c ys k) λt k ht=>zP t.isTup λtt=>yes k _ (rQ sw (λK=>Dn h) tt e.e ht)|_=>exact other
def R9{fp target iter:Expr}{jF:List Expr}{sc:Scope}{w:E×aC×Bool×E×E}{n:Str}{i:Nat}{tp:Pos}(h1:c.names.lookup n=some .local)(h0:eP n=true)(hi:c.im.lookup n=some i)(h2:tp.line=p.line)(h3:(sc.names.any λq=>q.1==n&&(q.2==.local||q.2==.cell))=false)(h:XZ c fp target iter jF sc w):
  SS c (.assign (.name i) (.comp w.1 w.2.1 w.2.2.1 w.2.2.2.1 w.2.2.2.2)) (.Assign [.Name n tp] (.ListComp fp [⟨target,iter,jF,0⟩] sc p) q):=by
 cases h with
 |mk ns iu tg one it cond o ht fd hi' hc he=>exact KS h1 h0 hi h2 h3 o ht fd hi' hc he
def Yc(r:Rec)(c:Sc)(y fp:Expr)(gens:List Comprehension)(sc:Scope)(p q:Pos)(k:Nat):Rs (SS c · (.Assign [y] (.ListComp fp gens sc p) q)):=
 mT (um y) λn en=>mT (Pa gens) λg eg=>fS (coR r c fp g.1 g.2.1 g.2.2 sc k) λm k h=>lV (c.names.lookup n.1=some .local) none λh1=>zP (eP n.1) λh0=>R7 (c.im.lookup n.1) λi hi=>lV (n.2.line=p.line) none λh2=>lV ((sc.names.any λq=>q.1==n.1&&(q.2==.local||q.2==.cell))=false) none λh3=>yes k _ (by rw[en,eg];exact R9 h1 h0 hi h2 h3 h)
def abM(r:Rec)(c:Sc)(y x:Expr)(q:Pos)(k:Nat):Rs (SS c · (.Assign [y] x q)):=by
 have other:Rs (SS c · (.Assign [y] x q)):=fS (r c x k) λm k e=>mT (X8 x) λj sw=>fS (tR r c y k) λt k ht=>yes k _ (zk sw (ht.s x) ht.t e.e ht.g)
 cases x with
 |ListComp iu gens sc p=>exact Yc r c y iu gens sc p q k|_=>exact other
def aR(r:Rec)(c:Sc)(y x:Expr)(q:Pos)(k:Nat):Rs (SS c · (.Assign [y] x q)):=by
 cases y with
 |Tuple ys kk p=>exact abL r c ys kk p x q k|_=>exact abM r c _ x q k
def Sa(x:Option Expr):Option {w:Pos×Expr×Pos//x=some (.Call (.Name (ofString "BadRows") w.1) [w.2.1] [] w.2.2)}:=by
 cases x with
 |none=>exact none|some x=>cases x with
  |Call f args XY p=>cases args with
   |nil=>exact none|cons y ys=>cases ys with
    |cons _ _=>exact none|nil=>cases XY with
     |cons _ _=>exact none|nil=>exact mT (um f) λn e=>lV (n.1=ofString "BadRows") none λh=>some ⟨(n.2,y,p),by rw[e,h]⟩
  |_=>exact none
def Yd(l:List ExceptHandler):Option {w:Pos×Nat×Pos×Pos×Pos//l=[.ExceptHandler (some (.Name (ofString "BadRows") w.1)) none [.Return (some (.Constant .none w.2.1 w.2.2.1)) w.2.2.2.1] w.2.2.2.2]}:=by
 cases l with
 |nil=>exact none|cons h t=>cases t with
  |cons _ _=>exact none|nil=>cases h with
   |ExceptHandler ty nm bd p=>cases ty with
    |none=>exact none|some ty=>cases nm with
     |some _=>exact none|none=>cases bd with
      |nil=>exact none|cons st rN=>cases rN with
       |cons _ _=>exact none|nil=>cases st with
        |Return v rp=>cases v with
         |none=>exact none|some v=>cases v with
          |Constant k kk kp=>cases k with
           |none=>exact mT (um ty) λn e=>lV (n.1=ofString "BadRows") none λh=>some ⟨(n.2,kk,kp,rp,p),by rw[e,h]⟩|_=>exact none
          |_=>exact none
        |_=>exact none
end
abbrev Gg:Type:=∀(c:Sc)(st:Stmt),Nat->Rs (SS c · st)
section
variable{c:Sc}{x y:Expr}{st:Stmt}{rN:List Stmt}{p q:Pos}
def V2(rs:Gg)(c:Sc)(rN:List Stmt):Nat->Rs (wQ c · rN):=List.rec (motive:=λrN=>Nat->Rs (wQ c · rN)) (λk=>yes k _ Rc)
 (λst rN ih k=>show Rs (wQ c · (st::rN))from fS (rs c st k) λm k h=>fS (ih k) λms k hs=>yes k _ (Ku h hs)) rN
def Ye(r:Rec)(rs:Gg):Gg:=λc st k=>by
 cases st with
 |Expr x p=>exact fS (r c x k) λm k e=>mT (X8 x) λj sw=>yes k (.expr m) (Kv sw e.e)|Return v p=>cases v with
  |none=>exact yes k _ Kw|some x=>exact fS (r c x k) λm k e=>yes k (.ret m) (Rd e.e)
 |Assign ys x p=>cases ys with
  |nil=>exact none|cons y ys=>cases ys with
   |nil=>exact aR r c y x p k|cons _ _=>exact none
 |If t a b p=>exact fS (r c t k) λm k e=>fS (V2 rs c a k) λma k ea=>fS (V2 rs c b k) λmb k eb=>yes k _ (Xc e.t ea eb)|While t a b p=>cases b with
  |nil=>exact fS (r c t k) λm k e=>fS (V2 rs c a k) λma k ea=>yes k _ (Fx e.t ea)|cons _ _=>exact none
 |For y x a b p=>cases b with
  |nil=>exact fS (iR r c x k) λm k e=>mT (fdV x) λj fd=>mT (tgV y) λq ht=>mT (nsR c q.1) λis hn=>fS (V2 rs c a k) λma k ea=>yes k (.iH is q.2 m ma) (Ry fd e (ht.at hn) ea)|cons _ _=>exact none
 |Raise x z p=>cases z with
  |some _=>exact none|none=>exact mT (Sa x) λw e=>lV (c.names.lookup (ofString "BadRows")=some .globalImplicit) none λh=>fS (r c w.2.1 k) λm k h'=>yes k (.f9 m) (by rw[e];exact Ga h h'.o h'.e)
 |Try a hs o f p=>cases o with
  |cons _ _=>exact none|nil=>cases f with
   |cons _ _=>exact none|nil=>exact mT (Yd hs) λw e=>lV (c.names.lookup (ofString "BadRows")=some .globalImplicit) none λh=>fS (V2 rs c a k) λm k h'=>yes k (.nJ m) (by rw[e];exact RZ h h')
 |_=>exact none
def Yf(n:Nat):Gg:=Nat.rec (motive:=λj=>Gg) (λj j j=>none) (λj rs=>Ye (X7 40) rs) n
end
def comp(sc:Scope)(rN:List Stmt):Rs (wQ ⟨kh sc,sc.names⟩ · rN):=V2 (Yf 20) ⟨kh sc,sc.names⟩ rN (kh sc).length
def Yg(sc:Scope)(rN:List Stmt)(m:S):Prop:=(comp sc rN).map (·.2.1)=some m
def Yg.ss{sc:Scope}{rN:List Stmt}{m:S}(h:Yg sc rN m):wQ ⟨kh sc,sc.names⟩ m rN:=by
 unfold Yg at h
 cases e:comp sc rN with
 |none=>rw[e]at h;exact eA h|some v=>rw[e]at h;obtain rfl:=ar h;exact v.2.2
structure Yh(base:Heap)(a:Addr)(f:Fn)(fd:FuncData)(bd:List Stmt):Prop extends FnHd base a f fd bd where
 ss:wQ ⟨kh fd.scope,fd.scope.names⟩ f.body bd
def lv0{d n:Nat}(h:d+2*(2*(n+1)+1)<=980):d+2*0<=978:=by lia
def lv1{d n:Nat}(h:d+2*(2*(n+1)+1)<=980):d+1+2*(2*n+1)<=978:=by lia
def lv2{d n:Nat}(h:d+50*(2*(n+1)+1)<=9800):d+50*0<=9750:=by lia
def lv3{d n:Nat}(h:d+50*(2*(n+1)+1)<=9800):d+3+50*(2*n+1)<=9750:=by lia
def Sb{F:Fix}{du:Addr->Option Fn}(hI:∀a f,du a=some f->∃fd body,Yh F.base a f fd body)(n:Nat):oD F (bt du F.tb n) (2*n+1):=by
 induction n with
 |zero=>exact λf vs A fr H s Q X j j j j j hw=>hw.elim|succ n ih=>
  intro f vs A fr H s Q X hk R hf hd hu hw;obtain⟨f',e,h1,h2,hw⟩:=hw;obtain⟨fd,body,I⟩:=hI f f' e;rw[au]at h1 h2;exact xf (K:=⟨F,A,fr,H,s,0,R,hf,lv0 hd,lv2 hu⟩) I.toFnHd ih (lv1 hd) (lv3 hu) h1 h2 λe e1 e2=>I.ss e.k (by show 1<=e.N;rw[e2];exact cY 1 _) (Rt Q) X (by cases e;subst e1;exact hw)
end fG
namespace fG.H
open PySem PySem.W PyProof.Rows
noncomputable abbrev pw:Program:=PySem.Challenge.pw_nz0042_01
noncomputable def s(x:String)(t:Nat):Value:=.str (ofString x) t
noncomputable def r(a:Nat):Value:=.ref a
noncomputable def z(n:Int):Value:=.int n 0
noncomputable def tp(xs:ai):Obj:=⟨.type "tuple",none,.seq xs.toArray 0,#[]⟩
noncomputable def fl(c:Value)(xs:ai):Obj:=⟨c,none,.fields xs.toArray,#[]⟩
noncomputable def e(P:Params)(x:String)(t:Nat)(v:Value):DictEntry:=⟨PyData.keyHash P (ofString x),.str (ofString x) t,v⟩
noncomputable def dc(c:Value)(es:List DictEntry)(n:Nat):Obj:=⟨c,none,.dict es.toArray n,#[]⟩
noncomputable def gr(o:Obj)(es:List DictEntry)(n:Nat):Obj:=match o.data with
 |.dict fs _=>⟨o.cls,none,.dict (fs.toList++es).toArray n,#[]⟩
 |_=>o
def eF(P:Params)(t a:Nat)(l:List String):List DictEntry:=match l with
 |[]=>[]
 |n::l=>e P n t (r a)::eF P (t+7) (a+7) l
def T(i:Nat):Stmt:=(pw.main.body[i]?).getD (.Pass default)
def M(i j:Nat):Stmt:=match T i with|.ClassDef _ _ _ b .. =>(b[j]?).getD (.Pass default)|_=>.Pass default
noncomputable def fn(st:Stmt)(n q:String)(c:Value)(gl:Nat)(df pm cd:Value):Obj:=⟨c,none,.func (match st with
 |.FunctionDef _ args b _ _ _ sc _ _ _=>⟨ofString n,ofString q,args,.stmts b,sc,gl,[],df,.none,.none,pm,none,cd,.none,0⟩
 |_=>default),#[]⟩
noncomputable def tE(t:BT)(a:Nat):List Obj->BT|[]=>t|o::l=>tE (t.ins a o) (a+1) l
noncomputable def rO(t:BT):List (Nat×Obj)->BT|[]=>t|(a,o)::l=>rO (t.set a λj=>o) l
def env:Env:={scope:=pw.main.scope,locals:=mainNs,globals:=mainNs,cells:=[],code:=.ref 13,frame:=some 14}
def bd:List Stmt:=behindTheImports pw
def cE:Code:=.body bd env
def cg(n q:String)(t:Nat)(l:ai):Obj:=fl (.type "code") (s n t::s q (t+1)::s "/claim/cut.py" (t+2)::l)
def c2(n q:String)(t l a f i:Nat)(b:Bool)(x:Nat):Obj:=cg n q t [z l,z a,z 0,z 0,z f,r i,.bool b,z 181,r (i+1),.none,r (i+2),r (i+3),r (i+4),z x,z l,s "/claim/cut.py" (x+1)]
def sv(t:Nat)(l:List String):ai:=match l with
 |[]=>[]
 |x::l=>s x t::sv (t+1) l
def sq(t:Nat)(l:List String):Obj:=tp (sv t l)
def f0(st:Stmt)(n q:String):Obj:=fn st n q .none 0 .none .none .none
def f1(st:Stmt)(n q:String)(df:Value)(m:String)(t a:Nat):Obj:=fn st n q (.type "function") 3 df (s m t) (r a)
def Se:Obj:=tp []
def Sf(st:Stmt)(n q:String)(t l a f i:Nat)(b:Bool)(nm:List String)(co:Obj)(df:Value)(md:String)(tk:Nat):List Obj:=[tp [],fl .none [],sq (t+3) nm,co,f0 st n q,c2 n q t l a f i b (t+3+nm.length),f1 st n q df md tk (i+5)]
def gf(st:Stmt)(n q:String)(t l a f i:Nat)(b:Bool)(nm:List String):List Obj:=Sf st n q t l a f i b nm Se .none "gemrows.rows" 240
def mU(st:Stmt)(n q:String)(t l a f i:Nat)(b:Bool)(nm:List String):List Obj:=Sf st n q t l a f i b nm Se .none "law_nz0042_01" 1037
def V3:Obj:=fl (.type "builtin_function_or_method") [.builtin "type.__prepare__",.type "type"]
def ins(a:Nat):Obj:=fl (.type "builtin_function_or_method") [.builtin "object.__init_subclass__",r a]
def sup(a:Nat):Obj:=fl (.type "super") [r a,r a,r a]
def Sh(a b:Nat)(m:String)(t:Nat):Obj:=⟨.type "frame",none,.plain,#[some (r a),some (r 3),some (r b),none,some (s m t),none,some (r 0)]⟩
def Si(n:String)(t l a x:Nat):Obj:=cg n n t [z l,z 0,z 0,z 0,z 0,r a,.bool false,z 181,r (a+1),.none,.none,.none,.none,z x,z l,s "/claim/cut.py" (x+1)]
def sl(f n:Nat):List Stmt:=(bd.drop f).take n
abbrev ann:bq:=some (.ref 6)
abbrev tT:=W.Fast.tw14364793385576792824
abbrev Sj:=@W.Fast.tw10110043849684766642
def L0(P:Params):List Obj:=[boot_o_0 P,boot_o_1 P,boot_o_2 P,boot_o_3 P,boot_o_4 P,boot_o_5 P,boot_o_6 P,boot_o_7 P,boot_o_8 P,boot_o_9 P,boot_o_10 P,tp [],fl .none [],Si "<module>" 182 1 11 185,Sh 13 3 "__main__" 164]
def t0(P:Params):BT:=tE BT.nil 0 (L0 P)
def S0(w:World)(os:OsState):SharedT:=⟨t0 w.params,15,{},#[],{},187,os⟩
def Yi(P:Params):Obj:=dc (.type "dict") [e P "__name__" 165 (s "gemrows.rows" 240),e P "__doc__" 166 .none,e P "__package__" 167 .none,e P "__loader__" 168 (.builtin "__main__.__loader__#opaque"),e P "__spec__" 169 .none,e P "__annotations__" 170 (r 6),e P "__builtins__" 171 (r 4),e P "__file__" 173 (s "/claim/cut.py" 172),e P "__cached__" 174 .none,e P "_wall" 193 (r 21),e P "GemError" 223 (r 39),e P "BadRows" 239 (r 52),e P "CODE_KINDS" 246 (r 55),e P "CATCH_SORTS" 249 (r 56),e P "SEND_KINDS" 253 (r 57),e P "OUT_SORTS" 256 (r 58),e P "JUMPS" 261 (r 59),e P "ENDS" 267 (r 60),e P "DEFINED_ON_TOP" 270 (r 61),e P "DEFINED_SORTS" 279 (r 62),e P "Row" 325 (r 87)] 21
def o52(P:Params):Obj:=⟨(.type "type"),none,.cls ⟨ofString "BadRows",[r 39],[r 52,r 39,.type "ValueError",.type "Exception",.type "BaseException",.type "object"],51,ofString "BadRows",true,[],[],false,none,false⟩,#[some (r 43),none,some (s "BadRows" 224),some (s "BadRows" 232),some (.builtin "ValueError.__new__"),some (.bool true)]⟩
def L1(P:Params):List Obj:=List.flatten [Sf (T 0) "_wall" "_wall" 187 1 1 3 15 true ["k"] Se .none "__main__" 164,[tp [.type "ValueError"],V3,dc (.type "dict") [e P "__module__" 203 (s "gemrows.errors" 194),e P "__qualname__" 205 (s "GemError" 204),e P "__firstlineno__" 207 (.int 5 206),e P "__init__" 216 (r 36),e P "__static_attributes__" 218 (r 37)] 5,tp [],fl .none [z 7,z 4,r 35],Si "GemError" 198 5 25 201,Sh 27 24 "gemrows.errors" 194,tp [s "" 208]],Sf (M 2 0) "__init__" "GemError.__init__" 209 7 2 3 30 true ["self","reason"] Se (r 29) "gemrows.errors" 194,[tp [s "reason" 217],dc (.type "dict") [e P "__module__" 203 (s "gemrows.errors" 194),e P "__firstlineno__" 207 (.int 5 206),e P "__init__" 216 (r 36),e P "__static_attributes__" 218 (r 37),e P "__weakref__" 220 (r 40),e P "__doc__" 221 .none] 3,⟨(.type "type"),none,.cls ⟨ofString "GemError",[.type "ValueError"],[r 39,.type "ValueError",.type "Exception",.type "BaseException",.type "object"],38,ofString "GemError",true,[],[r 52],false,none,false⟩,#[some (r 22),none,some (s "GemError" 196),some (s "GemError" 204),some (.builtin "ValueError.__new__"),some (.bool true)]⟩,fl (.type "getset_descriptor") [s "__weakref__" 219,r 39,.builtin "ExceptionGroup.__weakref__",.none],sup 39,ins 39,tp [r 39],V3,dc (.type "dict") [e P "__module__" 231 (s "gemrows.errors" 194),e P "__qualname__" 233 (s "BadRows" 232),e P "__firstlineno__" 235 (.int 10 234),e P "__static_attributes__" 236 (r 50)] 4,tp [],fl .none [],Si "BadRows" 226 10 46 229,Sh 48 45 "gemrows.errors" 194,tp [],dc (.type "dict") [e P "__module__" 231 (s "gemrows.errors" 194),e P "__firstlineno__" 235 (.int 10 234),e P "__static_attributes__" 236 (r 50),e P "__doc__" 237 .none] 2,o52 P,sup 52,ins 52,sq 242 ["method","block","class","program"],sq 247 ["rescue","ensure"],sq 250 ["call","self","var"],sq 254 ["break","return"],sq 257 ["jump","jumpif","jumpunless","jumpnil"],sq 262 ["jump","leave","out","again","nomatch"],sq 268 ["method_of","const_of"],sq 271 ["ivar","gvar","const","const_of","super","yield","method","method_of"],tp [],V3,dc (.type "dict") [e P "__module__" 287 (s "gemrows.rows" 240),e P "__qualname__" 289 (s "Row" 288),e P "__firstlineno__" 291 (.int 21 290),e P "__init__" 304 (r 77),e P "with_target" 312 (r 84),e P "__static_attributes__" 318 (r 85)] 6,tp [],fl .none [z 23,z 4,r 76,z 30,z 4,r 83],Si "Row" 282 21 66 285,Sh 68 65 "gemrows.rows" 240,tp [.none,.none,.none,.int 0 292]],Sf (M 13 0) "__init__" "Row.__init__" 293 23 6 3 71 true ["self","op","a","b","c","line"] Se (r 70) "gemrows.rows" 240,gf (M 13 1) "with_target" "Row.with_target" 305 30 2 3 78 true ["self","target"],[sq 313 ["a","b","c","line","op"],dc (.type "dict") [e P "__module__" 287 (s "gemrows.rows" 240),e P "__firstlineno__" 291 (.int 21 290),e P "__init__" 304 (r 77),e P "with_target" 312 (r 84),e P "__static_attributes__" 318 (r 85),e P "__dict__" 320 (r 88),e P "__weakref__" 322 (r 89),e P "__doc__" 323 .none] 4,⟨(.type "type"),none,.cls ⟨ofString "Row",[.type "object"],[r 87,.type "object"],86,ofString "Row",true,[],[],false,none,false⟩,#[none,none,some (s "Row" 280),some (s "Row" 288),some (.builtin "object.__new__"),some (.bool true)]⟩,fl (.type "getset_descriptor") [s "__dict__" 319,r 87,.builtin "function.__dict__",.builtin "function.__dict__#set"],fl (.type "getset_descriptor") [s "__weakref__" 321,r 87,.builtin "ExceptionGroup.__weakref__",.none],sup 87,ins 87]]
def t1(P:Params):BT:=rO (tE (t0 P) 15 (L1 P)) [(3,Yi P),(12,fl .none [z 1,z 0,r 20,z 5,z 0,r 27,z 10,z 0,r 48,z 21,z 0,r 68])]
def S1(w:World)(os:OsState):SharedT:=⟨t1 w.params,92,{},#[],{},326,os⟩
def Yj(P:Params):Obj:=gr (Yi P) ([e P "Catch" 370 (r 115),e P "Code" 434 (r 150)]++eF P 441 161 ["given","passed","tuck_effect","list_effect","table_effect","send_effect","super_effect","zsuper_effect","yield_effect","class_effect","defined_effect"]) 34
def L2(P:Params):List Obj:=List.flatten [[tp [],V3,dc (.type "dict") [e P "__module__" 333 (s "gemrows.rows" 240),e P "__qualname__" 335 (s "Catch" 334),e P "__firstlineno__" 337 (.int 32 336),e P "__init__" 349 (r 105),e P "covers" 357 (r 112),e P "__static_attributes__" 363 (r 113)] 6,tp [],fl .none [z 34,z 4,r 104,z 41,z 4,r 111],Si "Catch" 328 32 95 331,Sh 97 94 "gemrows.rows" 240],gf (M 14 0) "__init__" "Catch.__init__" 338 34 6 3 99 true ["self","sort","first","last","target","depth"],gf (M 14 1) "covers" "Catch.covers" 350 41 2 3 106 true ["self","place"],[sq 358 ["depth","first","last","sort","target"],dc (.type "dict") [e P "__module__" 333 (s "gemrows.rows" 240),e P "__firstlineno__" 337 (.int 32 336),e P "__init__" 349 (r 105),e P "covers" 357 (r 112),e P "__static_attributes__" 363 (r 113),e P "__dict__" 365 (r 116),e P "__weakref__" 367 (r 117),e P "__doc__" 368 .none] 4,⟨(.type "type"),none,.cls ⟨ofString "Catch",[.type "object"],[r 115,.type "object"],114,ofString "Catch",true,[],[],false,none,false⟩,#[none,none,some (s "Catch" 326),some (s "Catch" 334),some (.builtin "object.__new__"),some (.bool true)]⟩,fl (.type "getset_descriptor") [s "__dict__" 364,r 115,.builtin "function.__dict__",.builtin "function.__dict__#set"],fl (.type "getset_descriptor") [s "__weakref__" 366,r 115,.builtin "ExceptionGroup.__weakref__",.none],sup 115,ins 115,tp [],V3,dc (.type "dict") [e P "__module__" 378 (s "gemrows.rows" 240),e P "__qualname__" 380 (s "Code" 379),e P "__firstlineno__" 382 (.int 43 381),e P "__init__" 397 (r 133),e P "catch_at" 406 (r 140),e P "with_rows" 417 (r 147),e P "__static_attributes__" 427 (r 148)] 7,tp [],fl .none [z 45,z 4,r 132,z 56,z 4,r 139,z 59,z 4,r 146],Si "Code" 373 43 123 376,Sh 125 122 "gemrows.rows" 240],gf (M 15 0) "__init__" "Code.__init__" 383 45 9 3 127 true ["self","kind","name","params","slots","rows","catches","children","starts"],gf (M 15 1) "catch_at" "Code.catch_at" 398 56 3 3 134 true ["self","place","sorts"],gf (M 15 2) "with_rows" "Code.with_rows" 407 59 5 3 141 true ["self","rows","catches","starts","children"],[sq 418 ["catches","children","kind","name","number","params","rows","slots","starts"],dc (.type "dict") [e P "__module__" 378 (s "gemrows.rows" 240),e P "__firstlineno__" 382 (.int 43 381),e P "__init__" 397 (r 133),e P "catch_at" 406 (r 140),e P "with_rows" 417 (r 147),e P "__static_attributes__" 427 (r 148),e P "__dict__" 429 (r 151),e P "__weakref__" 431 (r 152),e P "__doc__" 432 .none] 4,⟨(.type "type"),none,.cls ⟨ofString "Code",[.type "object"],[r 150,.type "object"],149,ofString "Code",true,[],[],false,none,false⟩,#[none,none,some (s "Code" 371),some (s "Code" 379),some (.builtin "object.__new__"),some (.bool true)]⟩,fl (.type "getset_descriptor") [s "__dict__" 428,r 150,.builtin "function.__dict__",.builtin "function.__dict__#set"],fl (.type "getset_descriptor") [s "__weakref__" 430,r 150,.builtin "ExceptionGroup.__weakref__",.none],sup 150,ins 150],gf (T 16) "given" "given" 435 61 1 3 155 true ["argc"],gf (T 17) "passed" "passed" 442 63 1 3 162 true ["block"],gf (T 18) "tuck_effect" "tuck_effect" 449 65 1 3 169 true ["row"],gf (T 19) "list_effect" "list_effect" 456 67 1 3 176 true ["row"],gf (T 20) "table_effect" "table_effect" 463 69 1 3 183 true ["row"],gf (T 21) "send_effect" "send_effect" 470 71 1 3 190 true ["row"],gf (T 22) "super_effect" "super_effect" 477 73 1 3 197 true ["row"],gf (T 23) "zsuper_effect" "zsuper_effect" 484 75 1 3 204 true ["row"],gf (T 24) "yield_effect" "yield_effect" 491 77 1 3 211 true ["row"],gf (T 25) "class_effect" "class_effect" 498 79 1 3 218 true ["row"],gf (T 26) "defined_effect" "defined_effect" 505 81 1 3 225 true ["row"]]
def t2(P:Params):BT:=rO (tE (t1 P) 92 (L2 P)) [(3,Yj P),(12,fl .none [z 1,z 0,r 20,z 5,z 0,r 27,z 10,z 0,r 48,z 21,z 0,r 68,z 32,z 0,r 97,z 43,z 0,r 125,z 61,z 0,r 160,z 63,z 0,r 167,z 65,z 0,r 174,z 67,z 0,r 181,z 69,z 0,r 188,z 71,z 0,r 195,z 73,z 0,r 202,z 75,z 0,r 209,z 77,z 0,r 216,z 79,z 0,r 223,z 81,z 0,r 230])]
def S2(w:World)(os:OsState):SharedT:=⟨t2 w.params,232,{},#[],{},512,os⟩
def Yk(P:Params):Obj:=gr (Yj P) [e P "spreadto_effect" 518 (r 238)] 35
def L3(P:Params):List Obj:=List.flatten [gf (T 27) "spreadto_effect" "spreadto_effect" 512 83 1 3 232 true ["row"]]
def t3(P:Params):BT:=rO (tE (t2 P) 232 (L3 P)) [(3,Yk P),(12,fl .none [z 1,z 0,r 20,z 5,z 0,r 27,z 10,z 0,r 48,z 21,z 0,r 68,z 32,z 0,r 97,z 43,z 0,r 125,z 61,z 0,r 160,z 63,z 0,r 167,z 65,z 0,r 174,z 67,z 0,r 181,z 69,z 0,r 188,z 71,z 0,r 195,z 73,z 0,r 202,z 75,z 0,r 209,z 77,z 0,r 216,z 79,z 0,r 223,z 81,z 0,r 230,z 83,z 0,r 237])]
def S3(w:World)(os:OsState):SharedT:=⟨t3 w.params,239,{},#[],{},519,os⟩
def Ym(P:Params):Obj:=gr (Yk P) [e P "EFFECTS" 737 (r 239)] 36
def Gh(P:Params):Obj:=dc (.type "dict") [e P "push" 519 (r 240),e P "text" 523 (r 241),e P "pop" 527 (r 242),e P "dup" 531 (r 243),e P "dup2" 535 (r 244),e P "swap" 539 (r 245),e P "tuck" 543 (r 175),e P "self" 545 (r 246),e P "getl" 549 (r 247),e P "setl" 553 (r 248),e P "geti" 557 (r 249),e P "seti" 561 (r 250),e P "getg" 565 (r 251),e P "setg" 569 (r 252),e P "getc" 573 (r 253),e P "getcin" 577 (r 254),e P "setc" 581 (r 255),e P "list" 585 (r 182),e P "append" 587 (r 257),e P "joinlists" 591 (r 258),e P "spread" 595 (r 259),e P "table" 599 (r 189),e P "range" 601 (r 260),e P "totext" 605 (r 261),e P "texts" 609 (r 182),e P "send" 611 (r 196),e P "super" 613 (r 203),e P "zsuper" 615 (r 210),e P "yield" 617 (r 217),e P "jump" 619 (r 262),e P "jumpif" 623 (r 263),e P "jumpunless" 627 (r 264),e P "jumpnil" 631 (r 265),e P "lambda" 635 (r 266),e P "def" 639 (r 268),e P "sdef" 643 (r 269),e P "class" 647 (r 224),e P "module" 649 (r 270),e P "sclass" 653 (r 271),e P "alias" 657 (r 272),e P "undef" 661 (r 273),e P "leave" 665 (r 274),e P "out" 669 (r 275),e P "again" 673 (r 276),e P "caught" 677 (r 277),e P "setcaught" 681 (r 278),e P "defined" 685 (r 231),e P "spreadto" 687 (r 238),e P "respond" 689 (r 279),e P "islist" 693 (r 280),e P "istable" 697 (r 281),e P "listfits" 701 (r 283),e P "listat" 704 (r 284),e P "listpart" 707 (r 285),e P "tablehas" 710 (r 286),e P "tableat" 713 (r 287),e P "tablerest" 716 (r 288),e P "tableonly" 719 (r 289),e P "nomatch" 722 (r 290),e P "blockgiven" 725 (r 291)] 60
def L4(P:Params):List Obj:=[Gh P,tp [.int 0 520,.int 1 521],tp [.int 0 524,.int 1 525],tp [.int 1 528,.int 0 529],tp [.int 1 532,.int 2 533],tp [.int 2 536,.int 4 537],tp [.int 2 540,.int 2 541],tp [.int 0 546,.int 1 547],tp [.int 0 550,.int 1 551],tp [.int 1 554,.int 0 555],tp [.int 0 558,.int 1 559],tp [.int 1 562,.int 0 563],tp [.int 0 566,.int 1 567],tp [.int 1 570,.int 0 571],tp [.int 0 574,.int 1 575],tp [.int 1 578,.int 1 579],tp [.int 1 582,.int 0 583],dc (.type "dict") [e P "list" 585 (r 182),e P "append" 587 (r 257),e P "joinlists" 591 (r 258),e P "spread" 595 (r 259),e P "table" 599 (r 189),e P "range" 601 (r 260),e P "totext" 605 (r 261),e P "texts" 609 (r 182),e P "send" 611 (r 196),e P "super" 613 (r 203),e P "zsuper" 615 (r 210),e P "yield" 617 (r 217),e P "jump" 619 (r 262),e P "jumpif" 623 (r 263),e P "jumpunless" 627 (r 264),e P "jumpnil" 631 (r 265),e P "lambda" 635 (r 266)] 17,tp [.int 2 588,.int 1 589],tp [.int 2 592,.int 1 593],tp [.int 1 596,.int 1 597],tp [.int 2 602,.int 1 603],tp [.int 1 606,.int 1 607],tp [.int 0 620,.int 0 621],tp [.int 1 624,.int 0 625],tp [.int 1 628,.int 0 629],tp [.int 1 632,.int 1 633],tp [.int 0 636,.int 1 637],dc (.type "dict") [e P "def" 639 (r 268),e P "sdef" 643 (r 269),e P "class" 647 (r 224),e P "module" 649 (r 270),e P "sclass" 653 (r 271),e P "alias" 657 (r 272),e P "undef" 661 (r 273),e P "leave" 665 (r 274),e P "out" 669 (r 275),e P "again" 673 (r 276),e P "caught" 677 (r 277),e P "setcaught" 681 (r 278),e P "defined" 685 (r 231),e P "spreadto" 687 (r 238),e P "respond" 689 (r 279),e P "islist" 693 (r 280),e P "istable" 697 (r 281)] 17,tp [.int 0 640,.int 1 641],tp [.int 1 644,.int 1 645],tp [.int 0 650,.int 1 651],tp [.int 1 654,.int 1 655],tp [.int 0 658,.int 1 659],tp [.int 0 662,.int 1 663],tp [.int 1 666,.int 0 667],tp [.int 1 670,.int 0 671],tp [.int 1 674,.int 0 675],tp [.int 1 678,.int 1 679],tp [.int 1 682,.int 0 683],tp [.int 1 690,.int 1 691],tp [.int 1 694,.int 1 695],tp [.int 1 698,.int 1 699],dc (.type "dict") [e P "listfits" 701 (r 283),e P "listat" 704 (r 284),e P "listpart" 707 (r 285),e P "tablehas" 710 (r 286),e P "tableat" 713 (r 287),e P "tablerest" 716 (r 288),e P "tableonly" 719 (r 289),e P "nomatch" 722 (r 290),e P "blockgiven" 725 (r 291)] 9,tp [.int 1 702,.int 1 703],tp [.int 1 705,.int 1 706],tp [.int 1 708,.int 1 709],tp [.int 1 711,.int 1 712],tp [.int 1 714,.int 1 715],tp [.int 1 717,.int 1 718],tp [.int 1 720,.int 1 721],tp [.int 1 723,.int 0 724],tp [.int 0 726,.int 1 727]]
def t4(P:Params):BT:=rO (tE (t3 P) 239 (L4 P)) [(3,Ym P)]
def S4(w:World)(os:OsState):SharedT:=⟨t4 w.params,292,{},#[],{},738,os⟩
def Yn(P:Params):Obj:=gr (Ym P) [e P "effect_of" 745 (r 298)] 37
def L5(P:Params):List Obj:=List.flatten [gf (T 29) "effect_of" "effect_of" 738 86 1 3 292 true ["row","told"]]
def t5(P:Params):BT:=rO (tE (t4 P) 292 (L5 P)) [(3,Yn P),(12,fl .none [z 1,z 0,r 20,z 5,z 0,r 27,z 10,z 0,r 48,z 21,z 0,r 68,z 32,z 0,r 97,z 43,z 0,r 125,z 61,z 0,r 160,z 63,z 0,r 167,z 65,z 0,r 174,z 67,z 0,r 181,z 69,z 0,r 188,z 71,z 0,r 195,z 73,z 0,r 202,z 75,z 0,r 209,z 77,z 0,r 216,z 79,z 0,r 223,z 81,z 0,r 230,z 83,z 0,r 237,z 86,z 0,r 297])]
def S5(w:World)(os:OsState):SharedT:=⟨t5 w.params,299,{},#[],{},746,os⟩
def abN(P:Params):Obj:=gr (Yn P) [e P "OPERANDS" 875 (r 299)] 38
def Gi(P:Params):Obj:=dc (.type "dict") [e P "push" 746 (s "v" 747),e P "text" 749 (s "t" 750),e P "tuck" 752 (s "c" 753),e P "getl" 755 (s "cc" 756),e P "setl" 758 (s "cc" 759),e P "geti" 761 (s "n" 762),e P "seti" 764 (s "n" 765),e P "getg" 767 (s "n" 768),e P "setg" 770 (s "n" 771),e P "getc" 773 (s "n" 774),e P "getcin" 776 (s "n" 777),e P "setc" 779 (s "n" 780),e P "list" 782 (s "c" 783),e P "table" 785 (s "c" 786),e P "range" 788 (s "f" 789),e P "texts" 791 (s "c" 792),e P "send" 794 (s "nas" 795),e P "super" 797 (s "ab" 798),e P "zsuper" 800 (s "b" 801),e P "yield" 803 (s "a" 804),e P "jump" 806 (s "p" 807),e P "jumpif" 809 (s "p" 810),e P "jumpunless" 812 (s "p" 813),e P "jumpnil" 815 (s "p" 816),e P "lambda" 818 (s "c" 819),e P "def" 821 (s "nc" 822),e P "sdef" 824 (s "nc" 825),e P "class" 827 (s "ncf" 828),e P "module" 830 (s "nc" 831),e P "sclass" 833 (s "c" 834),e P "alias" 836 (s "nn" 837),e P "undef" 839 (s "n" 840),e P "out" 842 (s "s" 843),e P "defined" 845 (s "sv" 846),e P "spreadto" 848 (s "crc" 849),e P "respond" 850 (s "n" 851),e P "listfits" 852 (s "cf" 853),e P "listat" 854 (s "i" 855),e P "listpart" 856 (s "cc" 857),e P "tablehas" 858 (s "v" 859),e P "tableat" 860 (s "v" 861),e P "tablerest" 862 (s "k" 863),e P "tableonly" 864 (s "k" 865)] 43
def L6(P:Params):List Obj:=[Gi P,dc (.type "dict") [e P "super" 797 (s "ab" 798),e P "zsuper" 800 (s "b" 801),e P "yield" 803 (s "a" 804),e P "jump" 806 (s "p" 807),e P "jumpif" 809 (s "p" 810),e P "jumpunless" 812 (s "p" 813),e P "jumpnil" 815 (s "p" 816),e P "lambda" 818 (s "c" 819),e P "def" 821 (s "nc" 822),e P "sdef" 824 (s "nc" 825),e P "class" 827 (s "ncf" 828),e P "module" 830 (s "nc" 831),e P "sclass" 833 (s "c" 834),e P "alias" 836 (s "nn" 837),e P "undef" 839 (s "n" 840),e P "out" 842 (s "s" 843),e P "defined" 845 (s "sv" 846)] 17,dc (.type "dict") [e P "spreadto" 848 (s "crc" 849),e P "respond" 850 (s "n" 851),e P "listfits" 852 (s "cf" 853),e P "listat" 854 (s "i" 855),e P "listpart" 856 (s "cc" 857),e P "tablehas" 858 (s "v" 859),e P "tableat" 860 (s "v" 861),e P "tablerest" 862 (s "k" 863),e P "tableonly" 864 (s "k" 865)] 9]
def t6(P:Params):BT:=rO (tE (t5 P) 299 (L6 P)) [(3,abN P)]
def S6(w:World)(os:OsState):SharedT:=⟨t6 w.params,302,{},#[],{},876,os⟩
def Yo(P:Params):Obj:=dc (.type "dict") ([e P "__name__" 165 (s "law_nz0042_01" 1037),e P "__doc__" 166 .none,e P "__package__" 167 .none,e P "__loader__" 168 (.builtin "__main__.__loader__#opaque"),e P "__spec__" 169 .none,e P "__annotations__" 170 (r 6),e P "__builtins__" 171 (r 4),e P "__file__" 173 (s "/claim/cut.py" 172),e P "__cached__" 174 .none,e P "_wall" 193 (r 21),e P "GemError" 223 (r 39),e P "BadRows" 239 (r 52),e P "CODE_KINDS" 246 (r 55),e P "CATCH_SORTS" 249 (r 56),e P "SEND_KINDS" 253 (r 57),e P "OUT_SORTS" 256 (r 58),e P "JUMPS" 261 (r 59),e P "ENDS" 267 (r 60),e P "DEFINED_ON_TOP" 270 (r 61),e P "DEFINED_SORTS" 279 (r 62),e P "Row" 325 (r 87),e P "Catch" 370 (r 115),e P "Code" 434 (r 150)]++eF P 441 161 ["given","passed","tuck_effect","list_effect","table_effect","send_effect","super_effect","zsuper_effect","yield_effect","class_effect","defined_effect","spreadto_effect"]++[e P "EFFECTS" 737 (r 239),e P "effect_of" 745 (r 298),e P "OPERANDS" 875 (r 299),e P "is_whole" 882 (r 308),e P "is_block" 889 (r 315),e P "is_sort" 897 (r 322),e P "is_operand" 906 (r 329),e P "child_of" 914 (r 336),e P "RowCheck" 1026 (r 407),e P "check_rows" 1036 (r 420),e P "_law_table" 1044 (r 427),e P "_law_box" 1050 (r 432),e P "_law_take" 1060 (r 439),e P "_law_effect" 1074 (r 446),e P "_law_row" 1084 (r 454),e P "_law_child" 1094 (r 461)]) 51
def L7(P:Params):List Obj:=List.flatten [gf (T 31) "is_whole" "is_whole" 876 90 1 3 302 true ["value"],gf (T 32) "is_block" "is_block" 883 92 1 3 309 true ["value"],gf (T 33) "is_sort" "is_sort" 890 96 2 3 316 true ["row","value"],gf (T 34) "is_operand" "is_operand" 898 102 3 3 323 true ["row","letter","value"],gf (T 35) "child_of" "child_of" 907 120 1 3 330 true ["row","block"],[tp [],V3,dc (.type "dict") [e P "__module__" 922 (s "gemrows.rows" 240),e P "__qualname__" 924 (s "RowCheck" 923),e P "__firstlineno__" 926 (.int 137 925),e P "__init__" 935 (r 350),e P "fail" 944 (r 357),e P "reach" 955 (r 364),e P "need_form" 961 (r 369),e P "need_slots" 970 (r 376),e P "need_child" 982 (r 383),e P "step" 995 (r 390),e P "need_catches" 1004 (r 397),e P "run" 1014 (r 404),e P "__static_attributes__" 1019 (r 405)] 13,tp [],fl .none [z 139,z 4,r 349,z 145,z 4,r 356,z 148,z 4,r 363,z 158,z 4,r 368,z 170,z 4,r 375,z 174,z 4,r 382,z 181,z 4,r 389,z 196,z 4,r 396,z 204,z 4,r 403],Si "RowCheck" 917 137 340 920,Sh 342 339 "gemrows.rows" 240],gf (M 36 0) "__init__" "RowCheck.__init__" 927 139 3 3 344 true ["self","code","outer"],gf (M 36 1) "fail" "RowCheck.fail" 936 145 3 3 351 true ["self","place","reason"],gf (M 36 2) "reach" "RowCheck.reach" 945 148 4 3 358 true ["self","place","depth","origin","known"],[tp [],fl .none [],f0 (M 36 3) "need_form" "RowCheck.need_form",cg "need_form" "RowCheck.need_form" 956 [z 158,z 3,z 0,z 0,z 3,r 365,.bool true,z 181,r 366,.none,.none,.none,r 367,z 959,z 158,s "/claim/cut.py" 960],f1 (M 36 3) "need_form" "RowCheck.need_form" .none "gemrows.rows" 240 368],gf (M 36 4) "need_slots" "RowCheck.need_slots" 962 170 3 3 370 true ["self","place","row"],gf (M 36 5) "need_child" "RowCheck.need_child" 971 174 3 3 377 true ["self","place","row","told","index","kind"],gf (M 36 6) "step" "RowCheck.step" 983 181 2 3 384 true ["self","place","row","depth","taken","put","one"],gf (M 36 7) "need_catches" "RowCheck.need_catches" 996 196 1 3 391 true ["self","one","many"],gf (M 36 8) "run" "RowCheck.run" 1005 204 1 3 398 true ["self","place","row","start"],[sq 1015 ["code","depths","seen","waiting"],dc (.type "dict") [e P "__module__" 922 (s "gemrows.rows" 240),e P "__firstlineno__" 926 (.int 137 925),e P "__init__" 935 (r 350),e P "fail" 944 (r 357),e P "reach" 955 (r 364),e P "need_form" 961 (r 369),e P "need_slots" 970 (r 376),e P "need_child" 982 (r 383),e P "step" 995 (r 390),e P "need_catches" 1004 (r 397),e P "run" 1014 (r 404),e P "__static_attributes__" 1019 (r 405),e P "__dict__" 1021 (r 408),e P "__weakref__" 1023 (r 409),e P "__doc__" 1024 .none] 4,⟨(.type "type"),none,.cls ⟨ofString "RowCheck",[.type "object"],[r 407,.type "object"],406,ofString "RowCheck",true,[],[],false,none,false⟩,#[none,none,some (s "RowCheck" 915),some (s "RowCheck" 923),some (.builtin "object.__new__"),some (.bool true)]⟩,fl (.type "getset_descriptor") [s "__dict__" 1020,r 407,.builtin "function.__dict__",.builtin "function.__dict__#set"],fl (.type "getset_descriptor") [s "__weakref__" 1022,r 407,.builtin "ExceptionGroup.__weakref__",.none],sup 407,ins 407,tp [],tp [r 412]],Sf (T 37) "check_rows" "check_rows" 1027 217 2 3 414 true ["code","outer","check","child"] Se (r 413) "gemrows.rows" 240,mU (T 39) "_law_table" "_law_table" 1039 224 0 3 421 true [],[tp [],fl .none [],f0 (T 40) "_law_box" "_law_box",cg "_law_box" "_law_box" 1045 [z 226,z 1,z 0,z 0,z 3,r 428,.bool true,z 181,r 429,.none,.none,.none,r 430,z 1048,z 226,s "/claim/cut.py" 1049],f1 (T 40) "_law_box" "_law_box" .none "law_nz0042_01" 1037 431],mU (T 41) "_law_take" "_law_take" 1051 231 2 3 433 true ["box","many","digit","blend"],mU (T 42) "_law_effect" "_law_effect" 1061 240 4 3 440 true ["op","a","b","c","taken","puts","many","block"],[tp [.none,.none,.none]],Sf (T 43) "_law_row" "_law_row" 1075 261 4 3 448 true ["op","a","b","c"] Se (r 447) "law_nz0042_01" 1037,mU (T 44) "_law_child" "_law_child" 1085 263 2 3 455 true ["box","kind","depth","some"]]
def t7(P:Params):BT:=rO (tE (t6 P) 302 (L7 P)) [(3,Yo P),(12,fl .none [z 1,z 0,r 20,z 5,z 0,r 27,z 10,z 0,r 48,z 21,z 0,r 68,z 32,z 0,r 97,z 43,z 0,r 125,z 61,z 0,r 160,z 63,z 0,r 167,z 65,z 0,r 174,z 67,z 0,r 181,z 69,z 0,r 188,z 71,z 0,r 195,z 73,z 0,r 202,z 75,z 0,r 209,z 77,z 0,r 216,z 79,z 0,r 223,z 81,z 0,r 230,z 83,z 0,r 237,z 86,z 0,r 297,z 90,z 0,r 307,z 92,z 0,r 314,z 96,z 0,r 321,z 102,z 0,r 328,z 120,z 0,r 335,z 137,z 0,r 342,z 217,z 0,r 419,z 224,z 0,r 426,z 226,z 0,r 431,z 231,z 0,r 438,z 240,z 0,r 445,z 261,z 0,r 453,z 263,z 0,r 460])]
def S7(w:World)(os:OsState):SharedT:=⟨t7 w.params,462,{},#[],{},1095,os⟩
def tF(P:Params):Obj:=gr (Yo P) [e P "_law_within_new" 1103 (r 468),e P "_law_operand" 1115 (r 475),e P "_law_any" 1121 (r 480),e P "_law_simple" 1135 (r 487),e P "_law_piece" 1152 (r 494),e P "_law_plain" 1158 (r 499),e P "_law_bent_row" 1169 (r 506),e P "_law_bend" 1182 (r 513),e P "_law_is_whole" 1189 (r 520),e P "_law_is_block" 1196 (r 527),e P "_law_fits" 1204 (r 534),e P "_law_within" 1213 (r 541),e P "_law_row_right" 1219 (r 546),e P "_law_heights" 1225 (r 551),e P "_law_due" 1231 (r 556),e P "_law_code" 1237 (r 561),e P "_law_said" 1244 (r 568),e P "law" 1253 (r 575)] 69
def L8(P:Params):List Obj:=List.flatten [mU (T 45) "_law_within_new" "_law_within_new" 1095 267 3 3 462 true ["box","made","kind"],mU (T 46) "_law_operand" "_law_operand" 1104 270 4 3 469 true ["box","made","letter","op","kind","menu"],[tp [],fl .none [],f0 (T 47) "_law_any" "_law_any",cg "_law_any" "_law_any" 1116 [z 287,z 2,z 0,z 0,z 3,r 476,.bool true,z 181,r 477,.none,.none,.none,r 478,z 1119,z 287,s "/claim/cut.py" 1120],f1 (T 47) "_law_any" "_law_any" .none "law_nz0042_01" 1037 479],mU (T 48) "_law_simple" "_law_simple" 1122 304 3 3 481 true ["box","made","way","add","rest","one","spot","block"],mU (T 49) "_law_piece" "_law_piece" 1136 325 4 3 488 true ["box","made","base","deep","rows","way","ask","over","front","sort","first"],[tp [],fl .none [],f0 (T 50) "_law_plain" "_law_plain",cg "_law_plain" "_law_plain" 1153 [z 357,z 1,z 0,z 0,z 3,r 495,.bool true,z 181,r 496,.none,.none,.none,r 497,z 1156,z 357,s "/claim/cut.py" 1157],f1 (T 50) "_law_plain" "_law_plain" .none "law_nz0042_01" 1037 498],mU (T 51) "_law_bent_row" "_law_bent_row" 1159 364 2 3 500 true ["box","row","spot","more","way"],mU (T 52) "_law_bend" "_law_bend" 1170 373 2 3 507 true ["box","plain","way","rows","catches","at","spot"],mU (T 53) "_law_is_whole" "_law_is_whole" 1183 392 1 3 514 true ["value"],mU (T 54) "_law_is_block" "_law_is_block" 1190 394 1 3 521 true ["value"],mU (T 55) "_law_fits" "_law_fits" 1197 398 2 3 528 true ["letter","value"],mU (T 56) "_law_within" "_law_within" 1205 418 1 3 535 true ["row","kind","block"],[tp [],fl .none [],f0 (T 57) "_law_row_right" "_law_row_right",cg "_law_row_right" "_law_row_right" 1214 [z 426,z 3,z 0,z 0,z 3,r 542,.bool true,z 181,r 543,.none,.none,.none,r 544,z 1217,z 426,s "/claim/cut.py" 1218],f1 (T 57) "_law_row_right" "_law_row_right" .none "law_nz0042_01" 1037 545,tp [],fl .none [],f0 (T 58) "_law_heights" "_law_heights",cg "_law_heights" "_law_heights" 1220 [z 440,z 1,z 0,z 0,z 3,r 547,.bool true,z 181,r 548,.none,.none,.none,r 549,z 1223,z 440,s "/claim/cut.py" 1224],f1 (T 58) "_law_heights" "_law_heights" .none "law_nz0042_01" 1037 550,tp [],fl .none [],f0 (T 59) "_law_due" "_law_due",cg "_law_due" "_law_due" 1226 [z 463,z 2,z 0,z 0,z 3,r 552,.bool true,z 181,r 553,.none,.none,.none,r 554,z 1229,z 463,s "/claim/cut.py" 1230],f1 (T 59) "_law_due" "_law_due" .none "law_nz0042_01" 1037 555,tp [],fl .none [],f0 (T 60) "_law_code" "_law_code",cg "_law_code" "_law_code" 1232 [z 477,z 1,z 0,z 0,z 3,r 557,.bool true,z 181,r 558,.none,.none,.none,r 559,z 1235,z 477,s "/claim/cut.py" 1236],f1 (T 60) "_law_code" "_law_code" .none "law_nz0042_01" 1037 560],mU (T 61) "_law_said" "_law_said" 1238 482 1 3 562 true ["code"],mU (T 62) "law" "law" 1245 487 1 3 569 true ["script","box","plain"]]
def t8(P:Params):BT:=rO (tE (t7 P) 462 (L8 P)) [(3,tF P),(12,fl .none [z 1,z 0,r 20,z 5,z 0,r 27,z 10,z 0,r 48,z 21,z 0,r 68,z 32,z 0,r 97,z 43,z 0,r 125,z 61,z 0,r 160,z 63,z 0,r 167,z 65,z 0,r 174,z 67,z 0,r 181,z 69,z 0,r 188,z 71,z 0,r 195,z 73,z 0,r 202,z 75,z 0,r 209,z 77,z 0,r 216,z 79,z 0,r 223,z 81,z 0,r 230,z 83,z 0,r 237,z 86,z 0,r 297,z 90,z 0,r 307,z 92,z 0,r 314,z 96,z 0,r 321,z 102,z 0,r 328,z 120,z 0,r 335,z 137,z 0,r 342,z 217,z 0,r 419,z 224,z 0,r 426,z 226,z 0,r 431,z 231,z 0,r 438,z 240,z 0,r 445,z 261,z 0,r 453,z 263,z 0,r 460,z 267,z 0,r 467,z 270,z 0,r 474,z 287,z 0,r 479,z 304,z 0,r 486,z 325,z 0,r 493,z 357,z 0,r 498,z 364,z 0,r 505,z 373,z 0,r 512,z 392,z 0,r 519,z 394,z 0,r 526,z 398,z 0,r 533,z 418,z 0,r 540,z 426,z 0,r 545,z 440,z 0,r 550,z 463,z 0,r 555,z 477,z 0,r 560,z 482,z 0,r 567,z 487,z 0,r 574])]
def S8(w:World)(os:OsState):SharedT:=⟨t8 w.params,576,{},#[],{},1254,os⟩
abbrev Gs(w:World)(n:Nat)(S S':World->OsState->SharedT)(a b:Nat)(p q:Pos):Prop:=(λos=>Sj tT pw w 11 ann 1 n (S w os) (piecesOf (sl a b) env cE p [topFrame ⟨0,0,0,0⟩]))=λos=>some (Flow.next,S' w os,cE,q)
def g0(w:World):Gs w 855 S0 S1 0 14 ⟨0,0,0,0⟩ ⟨21,0,31,16⟩:=aO
def g1(w:World):Gs w 887 S1 S2 14 13 ⟨21,0,31,16⟩ ⟨81,0,82,51⟩:=aO
def g2(w:World):Gs w 30 S2 S3 27 1 ⟨81,0,82,51⟩ ⟨83,0,84,59⟩:=aO
def Ld(w:World):Gs (w.withFollow "special-get-raises" false) 1348 S3 S4 28 1 ⟨83,0,84,59⟩ ⟨85,0,85,7⟩:=aO
def Sk(w:World):Gs (w.withFollow "special-get-raises" true) 1348 S3 S4 28 1 ⟨83,0,84,59⟩ ⟨85,0,85,7⟩:=aO
def g3(w:World):Gs w 1348 S3 S4 28 1 ⟨83,0,84,59⟩ ⟨85,0,85,7⟩:=byRow2 "special-get-raises" (P:=λw=>Gs w 1348 S3 S4 28 1 ⟨83,0,84,59⟩ ⟨85,0,85,7⟩) Ld Sk w
def g4(w:World):Gs w 31 S4 S5 29 1 ⟨85,0,85,7⟩ ⟨86,0,88,57⟩:=aO
def Lf(w:World):Gs (w.withFollow "special-get-raises" false) 826 S5 S6 30 1 ⟨86,0,88,57⟩ ⟨89,0,89,8⟩:=aO
def Sl(w:World):Gs (w.withFollow "special-get-raises" true) 826 S5 S6 30 1 ⟨86,0,88,57⟩ ⟨89,0,89,8⟩:=aO
def g5(w:World):Gs w 826 S5 S6 30 1 ⟨86,0,88,57⟩ ⟨89,0,89,8⟩:=byRow2 "special-get-raises" (P:=λw=>Gs w 826 S5 S6 30 1 ⟨86,0,88,57⟩ ⟨89,0,89,8⟩) Lf Sl w
def g6(w:World):Gs w 876 S6 S7 31 14 ⟨89,0,89,8⟩ ⟨263,0,266,39⟩:=aO
def g7(w:World):Gs w 544 S7 S8 45 18 ⟨263,0,266,39⟩ ⟨487,0,493,61⟩:=aO
def ob(P:Params)(a:Nat):Obj:=bif Nat.beq a 3 then tF P else((L0 P++(L1 P++(L2 P++(L3 P++(L4 P++(L5 P++(L6 P++(L7 P++(L8 P)))))))))[a]?).getD (tp [])
noncomputable def kAs:aC:=[0,1,2,3,39,38,52,51,87,86,115,114,150,149,407,406,412,77,76,70,105,104,112,111,133,132,161,160,168,167,175,174,182,181,189,188,196,195,203,202,210,209,217,216,224,223,231,230,238,237,298,297,308,307,315,314,322,321,329,328,336,335,350,349,357,356,364,363,369,368,376,375,383,382,390,389,397,396,404,403,420,419,413,427,426,432,431,439,438,446,445,454,453,447,461,460,468,467,475,474,480,479,487,486,494,493,499,498,506,505,513,512,520,519,527,526,534,533,541,540,546,545,551,550,556,555,561,560,568,567,575,574,36,35,29,55,56,57,58,59,60,61,62,240,241,242,243,244,245,246,247,248,249,250,251,252,253,254,255,257,258,259,260,261,262,263,264,265,266,268,269,270,271,272,273,274,275,276,277,278,279,280,281,283,284,285,286,287,288,289,290,291,239,299]
def K(P:Params):Frag:=kAs.map λa=>(a,ob P a)
def boot:∀w:World,(fencedOpening treeTable pw w 6000).map (λs=>(s.heap,s.gens,s.drawn,s.toks))=some (boot_heap w.params,Array.mk [],boot_drawn,boot_toks):=
 boot_open (aO) aP (λs=>by kernel_rfl)
noncomputable abbrev B:List Frame:=[topFrame ⟨0,0,0,0⟩]
def pre(w:World):(λos=>W.Fast.tw15667345088766844465 tT pw w 11 ann 12 ⟨boot_heap w.params,Array.mk [],boot_drawn,boot_toks,os⟩ (topStub pw))=
  λos=>some ((S0 w os).abs,⟨W.Fast.tw11892475500146522536 tT cE,cE,⟨0,0,0,0⟩,B⟩):=aO
def block(w:World):(λos=>Sj tT pw w 11 ann 1 1 (S0 w os) (blockOf bd env cE ⟨0,0,0,0⟩ B))=λos=>some (Flow.next,S0 w os,cE,⟨0,0,0,0⟩):=aO
def fin(w:World):(λos=>W.Fast.tw14082659384304107361 tT pw w 11 ann 2 (S8 w os).abs ⟨doneF .next,cE,⟨487,0,493,61⟩,B⟩)=λos=>some (S8 w os).abs:=aO
def size(w:World):((boot_heap w.params).isNs mainGlobals&&(Array.mk []:Array GenState).size==0,(boot_heap w.params).objs.size,W.Fast.tw8920871248978507458 (boot_heap w.params) mainGlobals "__annotations__")=(true,11,ann):=aO
def Lg:bd=sl 0 14++(sl 14 13++(sl 27 1++(sl 28 1++(sl 29 1++(sl 30 1++(sl 31 14++(sl 45 18++[]))))))):=aO
def plain{w:World}{n:Nat}{S S':OsState->SharedT}{t:Thread}{c:Code}{q:Pos}(h:(λos=>Sj tT pw w 11 ann 1 n (S os) t)=λos=>some (Flow.next,S' os,c,q))(os:OsState):
  segRun treeTable pw w 11 ann 1 n (S os).abs t=some (.next,(S' os).abs,c,q):=by
 refine segRun_of ?_;rw[W.Fast.te10110043849684766642,W.Fast.te14364793385576792824];exact congrFun h os
def H1(P:Params):Heap:=absHeap (t8 P) 576 {}
def run(w:World)(os:OsState):topRun treeTable pw w 11 ann (12+(1+(855+(887+(30+(1348+(31+(826+(876+(544+2)))))))))) ⟨boot_heap w.params,Array.mk [],boot_drawn,boot_toks,os⟩ (topStub pw)=some ⟨H1 w.params,#[],{},1254,os⟩:=by
 have f:topRun treeTable pw w 11 ann 2 (S8 w os).abs ⟨doneF .next,cE,⟨487,0,493,61⟩,B⟩=some (S8 w os).abs:=by rw[W.Fast.te14082659384304107361,W.Fast.te14364793385576792824];exact congrFun (fin w) os
 have p:topGo treeTable pw w 11 ann 12 ⟨boot_heap w.params,Array.mk [],boot_drawn,boot_toks,os⟩ (topStub pw)=some ((S0 w os).abs,⟨denote treeTable cE,cE,⟨0,0,0,0⟩,B⟩):=by rw[W.Fast.te15667345088766844465,W.Fast.te11892475500146522536,W.Fast.te14364793385576792824];exact congrFun (pre w) os
 have c:=piece_app (plain (g6 w) os) (piece_app (plain (g7 w) os) (piece_nil (env:=env) f));have c:=piece_app (plain (g3 w) os) (piece_app (plain (g4 w) os) (piece_app (plain (g5 w) os) c));have c:=piece_app (plain (g0 w) os) (piece_app (plain (g1 w) os) (piece_app (plain (g2 w) os) c));rw[<-Lg]at c;have k:=piece_block (plain (block w) os) c;have e:(Code.body bd env)=cE:=aO;rw[e]at k;have k:=go_top p k;have e2:some (S8 w os).abs=some (Shared.mk (H1 w.params) #[] {} 1254 os):=aO;exact k.trans e2
noncomputable abbrev law:OpenLaw:=PySem.Challenge.rw_nz0042_01
def qv:Program:={pw with main:={pw.main with body:=sl 62 1}}
def loose:aF:=(pw.main.scope.names.map (·.1)).dropLast
abbrev mods:aF:=W.Fast.tw5923862056798008813 pw.main.body
def l1(w:World):(λos=>(staticsOk mods (boot_heap w.params) (H1 w.params)&&namesBound pw (H1 w.params)&&gensDone ⟨H1 w.params,#[],{},1254,os⟩&&laidKept (boot_heap w.params) (H1 w.params)))=λj=>true:=aO
def l2(w:World):(λos=>W.Fast.tw4187177175401517315 qv loose mods (λj=>true) true ⟨H1 w.params,#[],{},1254,os⟩)=λj=>openGood qv loose:=aO
def l3(w:World):kAs.map (H1 w.params).get?=(K w.params).map λp=>some p.2:=aO
def l4(P:Params):kAs=(K P).map (·.1):=aO
def left:LeftO pw qv loose (λj=>true) (λs=>kAs.map s.heap.get?) (λw=>(K w.params).map λp=>some p.2) 6000:=by
 refine LeftO.of_pieces (H₀:=boot_heap) (H₁:=H1) boot (λw=>?_) run aP λw=>?_
 ·rw[W.Fast.te8920871248978507458];exact size w
 ·funext os
  rw[W.Fast.te5923862056798008813,W.Fast.te4187177175401517315];exact Prod.ext (congrFun (l1 w) os) (Prod.ext (congrFun (l2 w) os) (l3 w))
end fG.H
namespace fG
open PySem PySem.W
noncomputable abbrev rl:OpenLaw:=PySem.Challenge.rw_nz0042_01
set_option maxHeartbeats 4000000 in
def Dp:rl.wellSaid=true:=by
 rw[Fast.te9446332074065402090];delta Fast.tw9446332074065402090 Fast.tw17960256430627541270 Fast.tw2436336058641802641 Fast.tw12908688711261696721
 repeat' with_reducible refine look_both ?_ ?_
 all_goals decide+kernel
end fG
namespace fG
open PySem PySem.W PySem.Calls PyProof.Rows
inductive Gj(K:Frag)(a:Addr)(fd:FuncData)(b:List Stmt):Prop
 |mk (o):K.lookup a=some o->o.cls=.type "function"->o.data=.func fd->fd.body=.stmts b->Gj K a fd b
inductive Sm(K:Frag)(d:Value)(ds:ai):Prop
 |no:d=.none->ds=[]->Sm K d ds
 |yes (T o xs n):d=.ref T->K.lookup T=some o->o.data=.seq xs n->xs.toList.map er=ds->Sm K d ds
noncomputable def abO(d:Data):Option {fd:FuncData//d=.func fd}:=by
 cases d with
 |func fd=>exact some ⟨fd,rfl⟩|_=>exact none
noncomputable def abP(d:Data):Option {q:Array Value×Nat//d=.seq q.1 q.2}:=by
 cases d with
 |seq xs n=>exact some ⟨(xs,n),rfl⟩|_=>exact none
noncomputable def abQ(b:FuncBody):Option {l:List Stmt//b=.stmts l}:=by
 cases b with
 |stmts l=>exact some ⟨l,rfl⟩|_=>exact none
def dfV(K:Frag)(d:Value)(ds:ai):Option {u:Unit//Sm K d ds}:=by
 cases d with
 |none=>exact lV (ds=[]) none λh=>some ⟨(),.no rfl h⟩|ref T=>exact R7 (K.lookup T) λo ho=>mT (abP o.data) λq hq=>lV (q.1.toList.map er=ds) none λh=>some ⟨(),.yes _ _ _ _ rfl ho hq h⟩|_=>exact none
def xg(K:Frag)(a:Addr):Option {q:FuncData×List Stmt//Gj K a q.1 q.2}:=
 R7 (K.lookup a) λo ho=>lV (o.cls=.type "function") none λhc=>mT (abO o.data) λfd hd=>mT (abQ fd.body) λb hb=>some ⟨(fd,b),o,ho,hc,hd,hb⟩
def zQ(K:Frag)(f:Fn)(fd:FuncData):Bool:=A3 f fd.params fd.scope&&(fd.globals==mainGlobals&&(fd.builtins==builtinsNs&&(fd.closure.isEmpty&&(codeIn K fd.code fd.qualname&&((dfV K fd.defaults f.fR).isSome&&decide (f.fR.length<=f.params))))))
def Yp(K:Frag)(p:Addr×Fn):Bool:=(xg K p.1).any λq=>zQ K p.2 q.1.1
def codeAt(K:Frag)(p:Addr×Fn):Option S:=(xg K p.1).bind λq=>(comp q.1.1.scope q.1.2).map (·.2.1)
noncomputable def Gk(p:Addr×Fn):Option S:=some p.2.body
def Sn(P:Params):rD.all (Yp (H.K P))=true:=aO
def Gl(P:Params):rD.map (codeAt (H.K P))=rD.map Gk:=aO
def lookup_all{α β:Type}[BEq α][LawfulBEq α]{l:List (α×β)}{p:α×β->Bool}(h:l.all p=true){a:α}{b:β}(e:l.lookup a=some b):p (a,b)=true:=
 bQ h _ (mem_lookup e)
def zR{α β γ:Type}[BEq α][LawfulBEq α]{l:List (α×β)}{f g:α×β->γ}(h:l.map f=l.map g){a:α}{b:β}(e:l.lookup a=some b):f (a,b)=g (a,b):=
 List.map_inj_left.mp h _ (mem_lookup e)
def fK{a b:Bool}(h:(a&&b)=true):a=true/\b=true:=(dr a b)▸h
noncomputable def kQ(o:Obj):Array DictEntry:=match o.data with|.dict es _=>es|_=>#[]
noncomputable def isFn:Kd->Bool|.fn=>true|_=>false
def Bk{k:Kd}(h:isFn k=true):k=.fn:=by cases k<;>first|rfl|exact iM h
def rZ{α:Type}{o:Option α}{p:α->Bool}(h:o.any p=true):∃a,o=some a/\p a=true:=by
 cases o with
 |none=>exact iM h|some a=>exact⟨a,rfl,h⟩
def Dq(a:At):a∈Gd:=by cases a<;>decide+kernel
def Yq(K:Frag)(c:Addr):Bool:=plainGet K c Str.empty&&(hasDictIn K c&&(findIn K (.ref c) "__setattr__"==some (some (.builtin "object.__setattr__"))&&(plainOver K c&&
 Gd.all λa=>takerIn K c a.str==some none&&(findIn K (.ref c) a.str).any (noGet K))))
def So(P:Params):iU.all (Yq (H.K P))=true:=aO
def Lh(P:Params):(rF.all λp=>keepIn (H.K P) (.ref p.1)&&(iU.contains p.1&&(makesIn (H.K P) p.1&&(findIn (H.K P) (.ref p.1) "__init__"==some (some (.ref p.2))&&isFn (aG.kind p.2)))))=true:=aO
def Li(P:Params):(qD.all λp=>isFn (aG.kind p.2)&&findIn (H.K P) (.ref p.1.1) p.1.2==some (some (.ref p.2)))=true:=aO
def Lj(P:Params):(rD.all λp=>keepIn (H.K P) (.ref p.1))=true:=aO
def Yr(P:Params):(gM.all λp=>nsFind (kQ (H.tF P)) p.1==some p.2)=true:=aO
def Ys(P:Params):(kJ.all λp=>nsFind (kQ (H.tF P)) p.1==none&&nsFind (kQ (boot_o_0 P)) p.1==some p.2)=true:=aO
def Lk(P:Params):findIn (H.K P) (.ref 52) "__init__"=some (some (.ref 36)):=aO
def Ll(P:Params):typeIn (H.K P) (.ref 36)=some (.type "function"):=aO
def Lm(P:Params):findIn (H.K P) (.ref 52) "__setattr__"=some (some (.builtin "object.__setattr__")):=aO
def Ln(P:Params):takerIn (H.K P) 52 "reason"=some none:=aO
def Lp(P:Params):hasDictIn (H.K P) 52=true:=aO
def Sq(P:Params):((xg (H.K P) 36).any λq=>zQ (H.K P) JJ q.1.1)=true:=aO
noncomputable def abR(st:Stmt):Scope×List Stmt:=by
 cases st with
 |FunctionDef _ _ b _ _ _ sc _ _ _=>exact(sc,b)|_=>exact(default,[])
def V4:Scope×List Stmt:=abR (H.M 2 0)
def Sr(P:Params):(xg (H.K P) 36).map (λq=>(q.1.1.scope,q.1.2))=some V4:=aO
def Yt:rI ⟨kh V4.1,V4.1.names⟩ V4.2:=rI.mk _ _ _ _ _ _ _ _ _ _ _ _ _ _ (aO) (aO) ⟨aO,aO,aO⟩ ⟨aO,aO,aO⟩ ⟨aO,aO,aO⟩ ⟨aO,aO,aO⟩
section
variable{K:Frag}{h:Heap}{a:Addr}{fd:FuncData}{b:List Stmt}{f:Fn}
def Lq{α:Type}{o:Option α}(h:o.isSome=true):∃a,o=some a:=Option.isSome_iff_exists.mp h
def Pb(X:K.In h)(x:Gj K a fd b)(e:zQ K f fd=true):FnHd h a f fd b:=by
 cases x with
 |mk o ho hc hd hb=>
  obtain⟨e1,e⟩:=fK e;obtain⟨e2,e⟩:=fK e;obtain⟨e3,e⟩:=fK e;obtain⟨e4,e⟩:=fK e;obtain⟨e5,e⟩:=fK e;obtain⟨e6,e7⟩:=fK e;refine⟨⟨o,X _ _ ho,hd⟩,hb,eq_of_beq e2,eq_of_beq e3,List.isEmpty_iff.mp e4,codeRec_of X e5,e1,?_,cf e7⟩;obtain⟨⟨_,q⟩,_⟩:=Lq e6
  cases q with
  |no e1 e2=>exact .inl ⟨e1,e2⟩|yes T o xs n e1 e2 e3 e4=>exact .inr ⟨T,o,xs,n,e1,X _ _ e2,e3,e4⟩
end
def Ss{K:Frag}{a:Addr}{f:Fn}(k1:Yp K (a,f)=true)(k2:codeAt K (a,f)=Gk (a,f)):∃fd b,Gj K a fd b/\zQ K f fd=true/\Yg fd.scope b f.body:=by
 obtain⟨q,h0,h1⟩:=rZ (show((xg K a).any λq=>zQ K f q.1.1)=true from k1);have k2:(xg K a).bind (λq=>(comp q.1.1.scope q.1.2).map (·.2.1))=some f.body:=k2;rw[h0]at k2;exact⟨q.1.1,q.1.2,q.2,h1,k2⟩
def Pd{w:World}{a:Addr}{f:Fn}(e:du a=some f):∃fd b,Gj (H.K w.params) a fd b/\zQ (H.K w.params) f fd=true/\Yg fd.scope b f.body:=Ss (lookup_all (Sn w.params) e) (zR (Gl w.params) e)
def Lu{K:Frag}(k1:((xg K 36).any λq=>zQ K JJ q.1.1)=true)(k2:(xg K 36).map (λq=>(q.1.1.scope,q.1.2))=some V4){h:Heap}(X:K.In h):∃fd bd,FnHd h 36 JJ fd bd/\rI ⟨kh fd.scope,fd.scope.names⟩ bd:=by
 obtain⟨q,h0,h1⟩:=rZ k1;rw[h0]at k2;have h2:(q.1.1.scope,q.1.2)=V4:=ar k2;have h3:=Yt;rw[<-h2]at h3;exact⟨q.1.1,q.1.2,Pb X q.2 h1,h3⟩
def Su(w:World){h:Heap}(X:(H.K w.params).In h):∃fd bd,FnHd h 36 JJ fd bd/\rI ⟨kh fd.scope,fd.scope.names⟩ bd:=Lu (Sq w.params) (Sr w.params) X
def Sw{a:Addr}(e:aG.kind a=.fn):∃f,du a=some f:=by
 unfold aG at e
 dsimp only at e
 cases z:rF.lookup a with
 |some i=>rw[z]at e;cases e|none=>
  rw[z]at e
  cases y:du a with
  |some f=>exact⟨f,rfl⟩|none=>rw[y]at e;cases e
def Lv{a i:Addr}(e:aG.kind a=.cls i):rF.lookup a=some i:=by
 unfold aG at e
 dsimp only at e
 cases z:rF.lookup a with
 |some j=>rw[z]at e;cases e;rfl|none=>
  rw[z]at e
  cases y:du a with
  |some f=>rw[y]at e;cases e|none=>rw[y]at e;cases e
def Gm{h:Heap}{K:Frag}(X:K.In h){a:Addr}{o:Obj}(e:K.lookup a=some o){m:Str->bq}(n:h.Ns a m)(x:Str):m x=nsFind (kQ o) x:=by
 obtain⟨o',es,ep,h1,h2,_,h4⟩:=n;rw[X a o e]at h1;obtain rfl:=ar h1;rw[<-h4 x];unfold kQ;rw[h2]
section
variable{w:World}{h:Heap}{mg mb:Str->bq}{x:Str}{v:Value}{a i c f:Addr}{n:Str}
def Yu(X:(H.K w.params).In h)(hg:h.Ns mainGlobals mg)(e:gM.lookup x=some v):mg x=some v:=
 (Gm X (a:=3) (o:=H.tF w.params) (aO) hg x).trans (eq_of_beq (lookup_all (p:=λp=>nsFind (kQ (H.tF w.params)) p.1==some p.2) (Yr w.params) e))
def Yv(X:(H.K w.params).In h)(hg:h.Ns mainGlobals mg)(hb:h.Ns builtinsNs mb)(e:kJ.lookup x=some v):mg x=none/\mb x=some v:=by
 have:=fK (lookup_all (Ys w.params) e);exact⟨(Gm X (a:=3) (o:=H.tF w.params) (aO) hg x).trans (eq_of_beq this.1),(Gm X (a:=0) (o:=boot_o_0 w.params) (aO) hb x).trans (eq_of_beq this.2)⟩
def Sx(X:(H.K w.params).In h)(e:aG.kind a=.fn):keepIn (H.K w.params) (.ref a)=true/\typeIn (H.K w.params) (.ref a)=some (.type "function")/\∃o,h.get? a=some o/\o.cls=.type "function":=by
 obtain⟨f,q⟩:=Sw e;obtain⟨fd,b,⟨o,ho,hc,_⟩,_⟩:=Pd (w:=w) q;exact⟨lookup_all (p:=λp=>keepIn (H.K w.params) (.ref p.1)) (Lj w.params) q,by show Option.map _ ((H.K w.params).lookup a)=_;rw[ho];exact ak some hc,o,X _ _ ho,hc⟩
def Gn(w:World)(e:aG.jU c n=some f):aG.kind f=.fn/\(c∈iU->findIn (H.K w.params) (.ref c) n=some (some (.ref f))):=by
 have:=fK (lookup_all (Li w.params) e);exact⟨Bk this.1,λj=>eq_of_beq this.2⟩
def Lw(w:World)(e:aG.kind a=.cls i):keepIn (H.K w.params) (.ref a)=true/\a∈iU/\makesIn (H.K w.params) a=true/\findIn (H.K w.params) (.ref a) "__init__"=some (some (.ref i))/\aG.kind i=.fn:=by
 obtain⟨a1,this⟩:=fK (lookup_all (Lh w.params) (Lv e));obtain⟨a2,this⟩:=fK this;obtain⟨a3,this⟩:=fK this;obtain⟨a4,a5⟩:=fK this;exact⟨a1,List.contains_iff_mem.mp a2,a3,eq_of_beq a4,Bk a5⟩
def Sy(w:World)(hc:c∈iU):plainGet (H.K w.params) c Str.empty=true/\hasDictIn (H.K w.params) c=true/\(∀a:At,∃attr,findIn (H.K w.params) (.ref c) a.str=some attr/\noGet (H.K w.params) attr=true)/\findIn (H.K w.params) (.ref c) "__setattr__"=some (some (.builtin "object.__setattr__"))/\plainOver (H.K w.params) c=true/\∀a:At,takerIn (H.K w.params) c a.str=some none:=by
 obtain⟨a1,this⟩:=fK (bQ (So w.params) c hc);obtain⟨a2,this⟩:=fK this;obtain⟨a3,this⟩:=fK this;obtain⟨a4,a5⟩:=fK this;have at_:=λa=>fK (bQ a5 a (Dq a));exact⟨a1,a2,λa=>rZ (at_ a).2,eq_of_beq a3,a4,λa=>eq_of_beq (at_ a).1⟩
def Yw(X:(H.K w.params).In h){f:Fn}(e:du a=some f):∃fd body,Yh h a f fd body:=by
 obtain⟨fd,b,x,e1,e2⟩:=Pd (w:=w) e;exact⟨fd,b,Pb X x e1,e2.ss⟩
def Yx(X:(H.K w.params).In h)(os:OsState)(lim:h.NoLimit)(hg:h.Ns mainGlobals mg)(hb:h.Ns builtinsNs mb):Fix:=
 ⟨H.pw,w,h,os,H.K w.params,aG,X,lim,⟨_,X 1 (boot_o_1 w.params) (aO)⟩,mg,mb,hg,hb,λj j=>Yu X hg,λj j j=>Yv X hg hb,λj=>Sx X,λj j j=>Gn w,λj j=>Lw w,
  .mk _ _ _ _ _ _ _ _ _ _ _ _ _ _ _ (X 52 (H.o52 w.params) (aO)),Lk _,Ll _,Lm _,Ln _,Lp _,Su w X,λj=>Sy w⟩
end
def pK:List (Addr×MO):=kObjs++[(412,.tup [])]
noncomputable def isTup(v:Value):Bool:=match v with|.type s=>s=="tuple"|_=>false
def Gp{v:Value}(h:isTup v=true):v=.type "tuple":=by
 cases v with
 |type s=>exact ak Value.type (eq_of_beq h)|_=>exact iM h
noncomputable def Yy(d:Data):Option (Array Value):=match d with
 |.seq items n=>bif n==0 then some items else none
 |_=>none
def Lx{d:Data}{xs:Array Value}(h:Yy d=some xs):d=.seq xs 0:=by
 cases d with
 |seq items n=>cases n with
  |zero=>obtain rfl:=ar h;rfl|succ n=>exact eA h
 |_=>exact eA h
def Yz(K:Frag)(a:Addr)(m:MO):Bool:=match m with|.tup xs=>(K.lookup a).any λo=>(Yy o.data).any λitems=>isTup o.cls&&(o.dict.isNone&&(o.slots.isEmpty&&(decide (items.toList.map er=xs)&&decide (xs.length<=1000))))|_=>false
def Ly(P:Params):(pK.all λp=>p.1==239||p.1==299||Yz (H.K P) p.1 p.2)=true:=aO
noncomputable def tri(e:DictEntry):Str×Tok×Value:=match e.key with
 |.str x t=>(x,t,e.val)
 |_=>(Str.empty,0,e.val)
noncomputable def ent(P:Params)(q:Str×Tok×Value):DictEntry:=⟨PyData.keyHash P q.1,.str q.1 q.2.1,q.2.2⟩
def qb(a:Addr):cC:=match kObjs.lookup a with|some (.ir es)=>es|_=>[]
def abS(P:Params):(kQ (H.Gh P)).toList=((kQ (H.Gh P)).toList.map tri).map (ent P):=aO
def abT(P:Params):(kQ (H.Gi P)).toList=((kQ (H.Gi P)).toList.map tri).map (ent P):=aO
def abU(P:Params):((kQ (H.Gh P)).toList.map tri).map (λq=>(q.1,er q.2.2))=qb 239:=aO
def abV(P:Params):((kQ (H.Gi P)).toList.map tri).map (λq=>(q.1,er q.2.2))=qb 299:=aO
def abW:((qb 239).map (·.1)).Nodup:=by decide+kernel
def abX:((qb 299).map (·.1)).Nodup:=by decide+kernel
def xh{w:World}{h:Heap}{a:Addr}{o:Obj}{n:Nat}{l:List (Str×Tok×Value)}{es:cC}(ho:h.get? a=some o)(hc:o=⟨.type "dict",none,.dict (kQ o) n,#[]⟩)
  (h1:(kQ o).toList=l.map (ent w.params)) (h2:l.map (λq=>(q.1,er q.2.2))=es) (h3:(es.map (·.1)).Nodup) (ha:a≠sysModules):je (H.pw,w) h a (.ir es):=by
 refine⟨l.map λq=>(q.1,q.2.2),⟨o,kQ o,n,ho,by rw[hc];exact⟨rfl,rfl,rfl⟩,by conv=>{lhs;rw[hc]},λe he=>?_,?_,?_⟩,?_,ha⟩
 ·have:e∈(kQ o).toList:=Array.mem_toList_iff.mpr he;rw[h1]at this;obtain⟨q,_,rfl⟩:=ja this;exact⟨q.1,strKind_is _ _ _ _,rfl⟩
 ·rw[h1];clear h1 h2
  induction l with
  |nil=>exact .nil|cons q l ih=>exact .cons (strKind_is _ _ _ _) rfl ih
 ·rw[<-h2]at h3;simpa [dq,Function.comp_def]using h3
 ·rw[<-h2,dq];rfl
def YA{o o':Obj}(h1:o.cls=o'.cls)(h2:o.dict=o'.dict)(h3:o.data=o'.data)(h4:o.slots=o'.slots):o=o':=by cases o;cases o';subst h1;subst h2;subst h3;subst h4;rfl
def Gq{w:World}{h:Heap}(X:(H.K w.params).In h):∀a o,pK.lookup a=some o->je (H.pw,w) h a o:=λa o e=>by
 have q:=lookup_all (Ly w.params) e;simp only[gg,beq_iff_eq]at q;rcases q with(q|q)|q
 ·subst q;obtain rfl:MO.ir (qb 239)=o:=by
   have:pK.lookup 239=some (MO.ir (qb 239)):=aO;rw[this]at e;exact ar e
  exact xh (X 239 (H.Gh w.params) (aO)) (n:=60) (aO) (abS _) (abU _) abW aP
 ·subst q;obtain rfl:MO.ir (qb 299)=o:=by
   have:pK.lookup 299=some (MO.ir (qb 299)):=aO;rw[this]at e;exact ar e
  exact xh (X 299 (H.Gi w.params) (aO)) (n:=43) (aO) (abT _) (abV _) abX aP
 ·cases o with
  |tup xs=>
   obtain⟨ob,ho,q⟩:=rZ q;obtain⟨items,hd,q⟩:=rZ q;have q1:=(dr _ _).mp q;have q2:=(dr _ _).mp q1.2;have q3:=(dr _ _).mp q2.2;have q4:=(dr _ _).mp q3.2;refine⟨items,X _ _ (ho.trans (ak some ?_)),cf q4.1,aa (cf q4.2) aP⟩;exact YA (Gp q1.1) (Option.isNone_iff_eq_none.mp q2.1) (Lx hd) (Array.isEmpty_iff.mp q3.1)
  |_=>exact iM q
def kro:∀a o,pK.lookup a=some o->o.mut=false:=λa o e=>by
 have:pK.all (λp=>p.2.mut==false)=true:=aO;exact beq_iff_eq.mp (lookup_all (p:=λp:Addr×MO=>p.2.mut==false) this e)
def vt:Prop:=∀(l:Addr)(ns:dN)(h:Hp),ns.length<=63->h l=some (.ro (ns.map int))->(∀p∈pK,h p.1=some p.2)->
 ∃n,n<=90/\bt du aG n 575 [.ref l] h (λv j=>v=.bool true) (λj=>False)
def isI(d:WData)(u:Value):Prop:=match d with|.int i=>u=int i|_=>True
def Gu{R:WRecords}{cl:Str->dz}{h:Heap}{v:Value}{d:WData}{a:bJ}(r:ReadsW R cl h v d a):isI d (er v):=by cases r<;>first|exact True.intro|rfl
def Gv{R:WRecords}{cl:Str->dz}{h:Heap}{v:Value}{i:Int}{a:bJ}(r:ReadsW R cl h v (.int i) a):er v=int i:=Gu r
def Dr{R:WRecords}{cl:Str->dz}{h:Heap}{vs:ai}:∀{ds:List WData}{as:bJ},ReadsAllW R cl h vs ds as->(∀d∈ds,∃i,d=.int i)->∃ns:dN,vs.map er=ns.map int/\ns.length=ds.length:=by
 induction vs with
 |nil=>exact λ{ds as} r _=>by cases r;exact⟨[],rfl,rfl⟩
 |cons v vs ih=>
  intro ds as r hd;obtain⟨d,ds,a,b,rfl,_,r1,r2⟩:=r.cons_inv;obtain⟨i,rfl⟩:=hd _ (.head _);obtain⟨ns,e1,e2⟩:=ih r2 λd m=>hd d (.tail _ m);exact⟨i::ns,by rw[List.map_cons,Gv r1,e1];rfl,ak (·+1) e2⟩
def H0(l:Addr)(ns:dN):Hp:=λa=>if a=l then some (.ro (ns.map int))else pK.lookup a
def Sz{l:Addr}{ns:dN}:H0 l ns l=some (.ro (ns.map int)):=av rfl
def SA{l a:Addr}{ns:dN}(e:a≠l):H0 l ns a=pK.lookup a:=aB e
noncomputable def roK:MO->Bool
 |.tup _|.ir _=>true
 |_=>false
def abY:pK.all (λp=>roK p.2)=true:=aO
def knd:(pK.map (·.1)).Nodup:=by decide+kernel
section
variable{w:World}{s:Shared}{l:Addr}{o:Obj}{vs:Array Value}{n:Nat}{ns:dN}
def YB(X:(H.K w.params).In s.heap)(ho:s.heap.get? l=some o)(hc:o.cls=.type "list"):pK.lookup l=none:=is_none λm e=>by
 have r:=Gq X l m e;have kq:=lookup_all (p:=λp:Addr×MO=>roK p.2) abY e
 cases m with
 |tup xs=>
  obtain⟨items,e1,_⟩:=r;rw[ho]at e1;obtain rfl:=ar e1;exact absurd (show Value.type "tuple"=Value.type "list"from hc) aP
 |ir es=>
  obtain⟨kvs,⟨o',_,_,e1,e2,_⟩,_⟩:=r;rw[ho]at e1;obtain rfl:=ar e1;exact absurd (hc.symm.trans e2.1) aP
 |_=>exact iM kq
def abZ(X:(H.K w.params).In s.heap)(gens:s.gens=#[])(ho:s.heap.get? l=some o)(hc:o.cls=.type "list")(hd:o.data=.seq vs n)(hv:vs.toList.map er=ns.map int)(hn:ns.length<=63):Rel (H.pw,w) s.heap s.os (H0 l ns) s:=by
 refine⟨λa o' e=>?_,λa o' e q=>?_,λj j e=>e,gens,rfl⟩
 ·by_cases z:a=l
  ·subst z;cases Sz.symm.trans e;exact⟨vs,⟨o,ho,hc,n,hd⟩,hv,by rw[au];exact aa hn aP⟩
  ·exact Gq X a o' ((SA z).symm.trans e)
 ·by_cases z:a=l
  ·subst z;cases Sz.symm.trans e;exact iM q
  ·exact Bool.noConfusion (q.symm.trans (kro a o' ((SA z).symm.trans e)))
def Lz{v:Value}(q:er v=.bool true):v=.bool true:=by cases v<;>first|exact q|cases q
def Gw:callerA.depth<=301:=by decide+kernel
def ab0{d m:Nat}(h:d<=301)(hm:m<=90):d+2*(2*m+1)<=980:=by lia
def ab1{m:Nat}(hm:m<=90):4+50*(2*m+1)<=9800:=by lia
def Gx(L:vt)(X:(H.K w.params).In s.heap)(lim:s.heap.NoLimit){mg mb:Str->bq}(hg:s.heap.Ns mainGlobals mg)(hb:s.heap.Ns builtinsNs mb)(gens:s.gens=#[])
  (ho:s.heap.get? l=some o) (hc:o.cls=.type "list") (hd:o.data=.seq vs n) (hv:vs.toList.map er=ns.map int) (hn:ns.length<=63):
  wpAny (model H.pw w) callerA (call (.ref 575) [.ref l]) (λv s'=>v=.bool true/\(∀b o,s.heap.get? b=some o->s'.heap.get? b=some o)/\s'.os=s.os/\s'.gens=#[]) (λj j=>False) s:=by
 obtain⟨m,hm,hw⟩:=L l ns (H0 l ns) hn Sz λp hp=>by
  have e:pK.lookup p.1=some p.2:=eQ knd hp;rw[SA λz=>aI (YB X ho hc) (z▸e)];exact e
 refine wpAny_call (codeAny_mono (Sb (F:=Yx X s.os lim hg hb) (λa f e=>Yw X e) m 575 [.ref l] callerA [] (H0 l ns) s _ _ (show aG.kind 575=.fn by kernel_rfl) (abZ X gens ho hc hd hv hn) ⟨rfl,trivial,nofun,rfl⟩ (ab0 Gw hm) (ab1 hm) hw) λr s' hr=>?_);refine hr.fl (P:=λr s'=>match r with|.ok (.ret v)=>v=.bool true/\(∀b o,s.heap.get? b=some o->s'.heap.get? b=some o)/\s'.os=s.os/\s'.gens=#[]|.ok _=>False|.error _=>False) (λv p=>?_) λe p=>?_
 ·obtain⟨H',q,R',_⟩:=p;exact⟨Lz q,λb ob e=>R'.stays b ob e,R'.os,R'.gens⟩
 ·obtain⟨_,q,_⟩:=p;exact q.elim
end
def xi:DefRec:=match H.T 62 with
 |.FunctionDef n a b _ _ _ sc _ _ pos=>⟨n,a,b,sc,pos⟩
 |_=>⟨Str.empty,default,[],default,default⟩
def LA:defOf H.qv rl.row.name=some (xi,[]):=aO
def LB:rl.row.prog.theDef rl.row.name=some (xi.params,xi.body,xi.scope):=aO
def LC:kwWritten? xi.params.kwonlyargs xi.params.kw_defaults=some []:=aO
def LD:xi.name=ofString "law":=aO
def YC:(chainsOk H.qv&&opensWell rl.row.prog&&(frees rl.row.toRowW&&rl.row.within.isEmpty))=true:=aO
def LF:rl.row.prog.bare:=⟨rfl,rfl,rfl,rfl,rfl,by decide+kernel⟩
def LG:rl.row.toRowW.promised:=⟨[.list []],by decide+kernel,by decide+kernel⟩
def SD{args:List WData}(h:rl.row.toRowW.claim.pre args=true):∃ns:dN,args=[.list (ns.map .int)]/\ns.length<=63:=by
 obtain⟨h1,h2⟩:=pre_splitW h;obtain⟨d,r,rfl,h3,h4⟩:=hasAllW_cons h1;obtain rfl:=hasAllW_nil h4;obtain⟨xs,rfl,h5⟩:=hasW_list h3;obtain⟨ns,rfl⟩:=PySem.W.items_int h5;refine⟨ns,rfl,?_⟩;have h6:(WTm.and (.not (.lt (.lit (.int 63)) (.len (.arg 0)))) (.lit (.bool true))).holds [] {args:=[.list (ns.map .int)]}=true:=h2;simp[WTm.holds,WTm.value]at h6;rcases Nat.lt_or_ge 63 ns.length with q|q
 ·have e:less? (WData.int 63) (WData.int ↑ns.length)=some (decide ((63:Int)<ns.length)):=rfl;rw[e,aZ (by omega)]at h6;cases h6
 ·exact q
def Ds(args:List WData):rl.row.toRowW.claim.post args (.bool true) args=true:=postW_of rfl (w_eq_bool (w_res rfl) w_lit) rfl
def LH(P:Params):nsFind (kQ (H.tF P)) (ofString "law")=some (.ref 575):=aO
set_option tactic.hygienic true in
def holds_of(L:vt):rl.Holds:=by
 refine holds_law Dp λab2=>?_;refine holds_open (q:=H.qv) (loose:=H.loose) (Xt:=λj=>true) (XP:=λj j=>True) (YP:=λw h=>(H.K w.params).In h) H.left (λw s e=>Frag.in_of (H.l4 w.params) e) (λw h h' x k=>Frag.In.keeps x k)
  (λj j=>trivial) (λj j j j j=>trivial) LA LB LC (λs j=>recFacts_nil rfl) rfl ab2 YC LF LG ?_
 intro w s₀ s₁ mg mb G Y a o pm cd doc dV kV ho hd hcd hD hmg hg args ady as ab3 adz hrd hwl hlo;obtain⟨ns,rfl,hn⟩:=SD ab3
 cases hrd with
 |cons h1 h2=>
  cases h2
  cases h1 with
  |list e1 e2 e3 e4=>
   rename_i l vs n as o';have ea:a=575:=by
    obtain⟨om,es,ep,g1,g2,_,g4⟩:=G.T.g;have:=Y 3 (H.tF w.params) (aO);rw[show mainGlobals=3 from rfl,this]at g1;cases g1;have g5:=g4 xi.name;rw[hmg,LD]at g5;have g6:nsFind (kQ (H.tF w.params)) (ofString "law")=some (.ref a):=by unfold kQ;rw[g2];exact g5
    rw[LH]at g6;cases g6;rfl
   subst ea;obtain⟨ms,m1,m2⟩:=Dr e4 λd A4=>by
    obtain⟨i,_,rfl⟩:=ja A4;exact⟨i,rfl⟩
   refine aJ (Gx (w:=w) (s:=s₁) L Y G.T.nolimit G.T.g G.T.b hg e1 e2 e3 m1 (by rw[m2,au];exact hn)) (λv s' p=>?_) λj j q=>q.elim;obtain⟨rfl,keep,os,gn⟩:=p;refine GoodW.toG ⟨.inl ⟨_,.bool true,[],rfl,λcls=>rfl,.bool true,Ds _,unshared_nil⟩,keep,os,gn⟩
end fG
namespace fG
open PySem
def nU:List (Addr×MO):=kObjs++[(412,.tup [])]
def Hp.Le(h h':Hp):Prop:=∀a o,h a=some o->h' a=some o
def Hp.Le.trans{h h1 h2:Hp}(x:h.Le h1)(y:h1.Le h2):h.Le h2:=λa o e=>y a o (x a o e)
structure Bw where
 gr:Int
 sd:Int
 ct:Int
 sm:Bool
noncomputable def Bw.dig(b:Bw)(k:Int):Int:=if b.gr>0 then b.gr.fmod k else(((((b.sd+40169*(b.ct+1)+7)^5).fmod 2147483647+93001*(b.ct+1))^3).fmod 2147483587).fdiv 16|>.fmod k
noncomputable def Bw.pL(b:Bw)(k:Int):Bw:=if b.gr>0 then{b with gr:=b.gr.fdiv k}else{b with ct:=b.ct+1}
def Yl(b:Bw)(ds:bz):Prop:=match ds with|[]=>True|p::ds=>b.dig p.1=p.2/\Yl (b.pL p.1) ds
structure Bx where
 b:Bw
 s0:0<=b.sd
 s1:b.sd<2147483629
 c0:0<=b.ct
structure Fs where
 l:bJ
 z:bJ
abbrev Fs.In(f:Fs)(a:Addr):Prop:=a∈f.l\/a∈f.z
def LI{m n:Nat}(l:n<m):m-(n+1)+1=m-n:=Nat.succ_pred (Nat.sub_ne_zero_of_lt l)
def SG{i:Int}{n:Nat}(h:0<=i)(l:i<=n):i.natAbs<=n:=eU.mp ((Int.natAbs_of_nonneg h).symm▸l)
def nl{f:Fs}{a:Addr}(n:¬f.In a):a∉f.l:=λm=>n (.inl m)
inductive Tr where
 |val (v:Value)
 |txt (k:Nat)
 |gY
 |any
 |cell (k:Nat)
 |app (t:Tr)
 |tup (ts:List Tr)
 |lst (ts:List Tr)
 |mV (ks:aF) (ts:List Tr)
 |obj (c:Addr) (ns:List At) (ts:List Tr)
abbrev aT:=Option Tr
abbrev ah:=List Tr
inductive Cn where
 |buf (p:Option ai) (ts:ah) (left:Nat)
 |mV (ks:aF) (ts:ah)
 |bx (s:Bx) (ds:bz) (left:Nat)
abbrev Sg:=List Cn
set_option genCtorIdx true in
inductive Out where
 |ret (t:Tr) (σ:Sg)
 |bad
 |mark
abbrev aw:=Option Out
noncomputable def tG:cj->Option ai|some (.tup xs)=>some xs|_=>none
noncomputable def Dt:cj->dz|some (.app l)=>some l|_=>none
noncomputable def LJ:cj->Option cC|some (.dict es)=>some es|_=>none
def zS(vs:ai)(P:Value->ai->Prop):Prop:=match vs with|[]=>False|v::ws=>P v ws
def YD(vs:ai):Prop:=match vs with|[]=>True|_::_=>False
inductive V5(ks:aF)(P:ai->Prop)(es:cC):Prop
 |mk (vs):es=ks.zip vs->P vs->V5 ks P es
inductive V6(f:Fs)(h:Hp)(c:Addr)(ns:List At)(P:ai->Prop)(a:Addr):Prop
 |mk (d vs):h a=some (.inst c d)->¬f.In a->h d=some (.ns (ns.zip vs))->¬f.In d->P vs->V6 f h c ns P a
mutual
def Rp(f:Fs)(h:Hp):Tr->hJ|.val w,v=>v=w/\handed w=true|.txt k,v=>onStr v λs=>s.cps.size<=k|.gY,v=>gu v λi=>i.natAbs<2^40|.any,v=>handed v=true|.cell k,v=>bp v λa=>f.l[k]? =some a|.app t,v=>bp v λa=>¬f.In a/\Got (Dt (h a)) λl=>Rp f h t (.ref l)|.tup ts,v=>bp v λa=>¬f.In a/\Got (tG (h a)) (jv f h ts)|.lst ts,v=>bp v λa=>¬f.In a/\Got (fJ (h a)) (jv f h ts)|.mV ks ts,v=>bp v λa=>¬f.In a/\Got (dictOf (h a)) (V5 ks (jv f h ts))|.obj c ns ts,v=>bp v (V6 f h c ns (jv f h ts))
def jv(f:Fs)(h:Hp):ah->ai->Prop|[],vs=>YD vs|t::ts,vs=>zS vs λv ws=>Rp f h t v/\jv f h ts ws
end
section
variable{v:Value}{C:hJ}{PI:Int->Prop}{PS:Str->Prop}{PR:Addr->Prop}
@[elab_as_elim] def qy(h:gu v PI)(k:∀i t,PI i->C (.int i t)):C v:=by cases v<;>first|exact h.elim|exact k _ _ h
@[elab_as_elim] def oP(h:onStr v PS)(k:∀i t,PS i->C (.str i t)):C v:=by cases v<;>first|exact h.elim|exact k _ _ h
@[elab_as_elim] def kR(h:bp v PR)(k:∀a,PR a->C (.ref a)):C v:=by cases v<;>first|exact h.elim|exact k _ h
def bu{P:Addr->Prop}(h:bp v PR)(k:∀a,PR a->P a):bp v P:=kR (C:=λv=>bp v P) h k
def Got.imp{α:Type}{o o':Option α}{P Q:α->Prop}(g:Got o P)(e:∀x,o=some x->o'=some x)(k:∀x,P x->Q x):Got o' Q:=by
 cases g with
 |mk x q w=>exact⟨x,e x q,k x w⟩
def V5.imp{ks:aF}{P Q:ai->Prop}{es:cC}(g:V5 ks P es)(k:∀x,P x->Q x):V5 ks Q es:=by
 cases g with
 |mk x q w=>exact⟨x,q,k x w⟩
def gx{vs:ai}{P Q:Value->ai->Prop}(h:zS vs P)(k:∀v ws,P v ws->Q v ws):zS vs Q:=by
 cases vs with
 |nil=>exact h|cons v ws=>exact k v ws h
end
structure iA(h:Hp)(f:Fs)(h':Hp)(f':Fs):Prop where
 keep:∀a o,h a=some o->a∉f.l->h' a=some o
 live:∀a,h' a=none->h a=none
 pre:∀(i:Nat)(a:Addr),f.l[i]? =some a->f'.l[i]? =some a
 new:∀a,a∈f'.l->a∈f.l\/h a=none
 zz:f'.z=f.z
def iA.refl(h:Hp)(f:Fs):iA h f h f:=⟨λj j e j=>e,λj e=>e,λj j e=>e,λj=>.inl,rfl⟩
def iA.off{h h':Hp}{f f':Fs}(L:iA h f h' f'){a:Addr}{o:MO}(e:h a=some o)(n:¬f.In a):¬f'.In a:=λm=>m.elim (λm=>(L.new a m).elim (nl n) λz=>aI z e) λm=>n (.inr (L.zz▸m))
def iA.trans{h h1 h2:Hp}{f f1 f2:Fs}(x:iA h f h1 f1)(y:iA h1 f1 h2 f2):iA h f h2 f2:=
 ⟨λa o e n=>y.keep a o (x.keep a o e n) λm=>(x.new a m).elim n λz=>aI z e,λa e=>x.live a (y.live a e),λi a e=>y.pre i a (x.pre i a e),λa m=>(y.new a m).elim (x.new a) λe=>.inr (x.live a e),y.zz.trans x.zz⟩
section
variable{h h':Hp}{f f':Fs}
def iA.opt{α:Type}{g:cj->Option α}(g0:g none=none)(L:iA h f h' f'){a:Addr}(n:¬f.In a)(x:α)(e:g (h a)=some x):¬f'.In a/\g (h' a)=some x:=by
 cases z:h a with
 |none=>rw[z,g0]at e;exact eA e|some o=>rw[L.keep a o z (nl n),<-z];exact⟨L.off z n,e⟩
def Got.ext{α:Type}{g:cj->Option α}{a:Addr}{P Q:α->Prop}(q:¬f.In a/\Got (g (h a)) P)(g0:g none=none)(L:iA h f h' f')(k:∀x,P x->Q x):¬f'.In a/\Got (g (h' a)) Q:=by
 cases q.2 with
 |mk x e w=>exact⟨(L.opt g0 q.1 x e).1,x,(L.opt g0 q.1 x e).2,k x w⟩
mutual
theorem vu(L:iA h f h' f'):∀(t:Tr){v:Value},Rp f h t v->Rp f' h' t v
 |.val _,_,r=>r|.txt _,_,r=>r|.gY,_,r=>r|.any,_,r=>r|.cell k,_,r=>bu r λa q=>L.pre k a q|.app t,_,r=>bu r λa q=>Got.ext q rfl L λj=>vu L t|.tup ts,_,r=>bu r λa q=>Got.ext q rfl L λj=>gQ L ts|.lst ts,_,r=>bu r λa q=>Got.ext q rfl L λj=>gQ L ts|.mV ks ts,_,r=>bu r λa q=>Got.ext q rfl L λj d=>d.imp λj=>gQ L ts|.obj c ns ts,_,r=>bu r λa q=>by
  cases q with
  |mk d vs e1 e2 e3 e4 w=>exact⟨d,vs,L.keep _ _ e1 (nl e2),L.off e1 e2,L.keep _ _ e3 (nl e4),L.off e3 e4,gQ L ts w⟩
theorem gQ(L:iA h f h' f'):∀(ts:ah){vs:ai},jv f h ts vs->jv f' h' ts vs|[],_,r=>r|t::ts,_,r=>gx r λj j q=>⟨vu L t q.1,gQ L ts q.2⟩
end
def zT{v:Value}(e:handed v=true):Rp f h (.val v) v:=⟨rfl,e⟩
def km{t:Tr}{v:Value}(r:Rp f h t v):handed v=true:=by
 cases t with
 |val w=>exact r.1▸r.2|txt k=>exact oP (C:=λv=>handed v=true) r λj j j=>rfl|gY=>exact qy (C:=λv=>handed v=true) r λj j j=>rfl|any=>exact r|_=>exact kR (C:=λv=>handed v=true) r λj j=>rfl
def bw{ts:ah}:∀{vs:ai},jv f h ts vs->vs.length=ts.length:=by
 induction ts with
 |nil=>exact λ{vs} r=>by cases vs with
  |nil=>rfl|cons=>exact r.elim
 |cons t ts ih=>exact λ{vs} r=>by cases vs with
  |nil=>exact r.elim|cons v ws=>exact ak (·+1) (ih (vs:=ws) r.2)
def pM{ts:ah}:∀{vs:ai}{j:Nat}{t:Tr},jv f h ts vs->ts[j]? =some t->Got vs[j]? (Rp f h t):=by
 induction ts with
 |nil=>exact λJ e=>eA e|cons u ts ih=>exact λ{vs j t} r e=>by cases vs with
  |nil=>exact r.elim|cons v ws=>cases j with
   |zero=>obtain rfl:=ar e;exact⟨v,rfl,r.1⟩|succ j=>exact ih (vs:=ws) (j:=j) r.2 e
def hZ{ts us:ah}:∀{vs ws:ai},jv f h ts vs->jv f h us ws->jv f h (ts++us) (vs++ws):=by
 induction ts with
 |nil=>exact λ{vs ws} r q=>by cases vs with
  |nil=>exact q|cons=>exact r.elim
 |cons t ts ih=>exact λ{vs ws} r q=>by cases vs with
  |nil=>exact r.elim|cons v vs=>exact⟨r.1,ih r.2 q⟩
def r7{n:Nat}:∀{ts:ah}{vs:ai},jv f h ts vs->jv f h (ts.drop n) (vs.drop n):=by
 induction n with
 |zero=>exact λr=>r|succ n ih=>exact λ{ts vs} r=>by cases ts with
  |nil=>cases vs with
   |nil=>exact r|cons=>exact r.elim
  |cons t ts=>cases vs with
   |nil=>exact r.elim|cons v vs=>exact ih r.2
def xj{n:Nat}:∀{ts:ah}{vs:ai},jv f h ts vs->jv f h (ts.take n) (vs.take n):=by
 induction n with
 |zero=>exact λj=>trivial|succ n ih=>exact λ{ts vs} r=>by cases ts with
  |nil=>cases vs with
   |nil=>exact r|cons=>exact r.elim
  |cons t ts=>cases vs with
   |nil=>exact r.elim|cons v vs=>exact⟨r.1,ih r.2⟩
def Du{ts us:ah}:∀{vs:ai},jv f h (ts++us) vs->jv f h ts (vs.take ts.length)/\jv f h us (vs.drop ts.length):=by
 intro vs r;have a:=xj (n:=ts.length) r;have b:=r7 (n:=ts.length) r;rw[List.take_left]at a;rw[List.drop_left]at b;exact⟨a,b⟩
def Bl{ts:ah}{t:Tr}{v:Value}(q:Rp f h t v):∀{vs:ai}{i:Nat},jv f h ts vs->jv f h (ts.set i t) (vs.set i v):=by
 induction ts with
 |nil=>exact λ{vs i} r=>by cases vs with
  |nil=>exact r|cons=>exact r.elim
 |cons u ts ih=>exact λ{vs i} r=>by cases vs with
  |nil=>exact r.elim|cons w ws=>cases i with
   |zero=>exact⟨q,r.2⟩|succ i=>exact⟨r.1,ih r.2⟩
end
def SH(s:Bx):ai:=[int s.b.gr,int s.b.sd,int s.b.ct,.bool s.b.sm]
noncomputable def LK(p:Option ai):ai:=p.getD []
inductive Dv(f:Fs)(h:Hp)(p:Option ai)(ts:ah)(left:Nat)(vs:ai):Prop
 |mk (us):vs=LK p++us->jv f h ts us->vs.length+left<=aq->Dv f h p ts left vs
def iP(f:Fs)(h:Hp)(c:Cn)(o:cj):Prop:=match c with|.buf p ts left=>Got (fJ o) (Dv f h p ts left)|.mV ks ts=>Got (LJ o) (V5 ks (jv f h ts))|.bx s ds left=>fJ o=some (SH s)/\s.b.ct+left<=1000000/\Yl s.b ds
section
variable{h h':Hp}{f f':Fs}
def Dv.imp{p:Option ai}{ts ts':ah}{left:Nat}{vs:ai}(b:Dv f h p ts left vs)(k:∀us,jv f h ts us->jv f' h' ts' us):Dv f' h' p ts' left vs:=by
 cases b with
 |mk us e r l=>exact⟨us,e,k us r,l⟩
def jk(L:iA h f h' f'){c:Cn}{o:cj}(r:iP f h c o):iP f' h' c o:=by
 cases c with
 |buf p ts left=>exact Got.imp r (λj=>id) λj b=>b.imp λj=>gQ L ts|mV ks ts=>exact Got.imp r (λj=>id) λj b=>b.imp λj=>gQ L ts|bx s ds left=>exact r
def r8{c:Cn}{o:cj}(r:iP f h c o):o≠none:=λz=>by
 subst z
 cases c with
 |buf=>cases r with|mk x e w=>exact eA e
 |mV=>cases r with|mk x e w=>exact eA e
 |bx=>exact eA r.1
end
structure vw(h:Hp)(f:Fs)(σ:Sg):Prop where
 k:∀a o,nU.lookup a=some o->h a=some o/\¬f.In a
 nd:f.l.Nodup
 ln:f.l.length=σ.length
 zs:∀a,a∈f.z->h a≠none
 zn:∀a,a∈f.z->a∉f.l
 c:∀(i:Nat) c,σ[i]? =some c->Got f.l[i]? λa=>iP f h c (h a)
structure Wd where
 h:Hp
 f:Fs
 σ:Sg
 ok:vw h f σ
def Wd.Le(w w':Wd):Prop:=iA w.h w.f w'.h w'.f
def Wd.R(w:Wd)(t:Tr)(v:Value):Prop:=Rp w.f w.h t v
def Wd.L(w:Wd)(ts:ah)(vs:ai):Prop:=jv w.f w.h ts vs
def Wd.Le.refl(w:Wd):w.Le w:=iA.refl _ _
def Wd.Le.trans{w w1 w2:Wd}(x:w.Le w1)(y:w1.Le w2):w.Le w2:=iA.trans x y
def Wd.Le.R{w w':Wd}(L:w.Le w'){t:Tr}{v:Value}(r:w.R t v):w'.R t v:=vu L t r
def Wd.Le.L{w w':Wd}(L:w.Le w'){ts:ah}{vs:ai}(r:w.L ts vs):w'.L ts vs:=gQ L ts r
def vw.some{h:Hp}{f:Fs}{σ:Sg}(W:vw h f σ){a:Addr}(m:a∈f.l):h a≠none:=by
 obtain⟨i,l,rfl⟩:=List.getElem_of_mem m;have li:i<σ.length:=W.ln▸l;cases W.c i σ[i] (bN li)with
 |mk b e r=>
  rw[bN l]at e;obtain rfl:=ar e;exact r8 r
def vw.new{h:Hp}{f:Fs}{σ:Sg}(W:vw h f σ){a:Addr}(e:h a=none):¬f.In a:=λm=>m.elim (λm=>W.some m e) λm=>W.zs a m e
section
variable{h:Hp}{f:Fs}{σ:Sg}{a:Addr}{o:MO}
def oQ(W:vw h f σ)(e:h a=none):iA h f (h.set a o) f:=
 ⟨λb m q j=>(Hp.bj λz=>aI e (z▸q)).trans q,λb q=>is_none λm z=>aI q ((Hp.bj λy=>aI e (y▸z)).trans z),λj j q=>q,λj=>.inl,rfl⟩
def Bm(m:a∈f.l)(s:h a≠none):iA h f (h.set a o) f:=
 ⟨λb q e n=>(Hp.bj λz:b=a=>n (z▸m)).trans e,λb q=>by
  by_cases z:b=a
  ·subst z;rw[Hp.set_same]at q;exact zSN q
  ·rw[Hp.bj z]at q;exact q,λj j q=>q,λj=>.inl,rfl⟩
def xk(W:vw h f σ)(e:h a=none):iA h f (h.set a o) ⟨f.l++[a],f.z⟩:=
 ⟨(oQ W e).keep,(oQ W e).live,λi b q=>fO (dO q).1▸q,λb m=>(fZ m).imp id λz=>(cI z:b=a)▸e,rfl⟩
def vw.step{h':Hp}{σ':Sg}(W:vw h f σ)(L:iA h f h' f)(ln:σ'.length=σ.length)(c:∀(i:Nat) c,σ'[i]? =Option.some c->Got f.l[i]? λa=>iP f h' c (h' a)):vw h' f σ':=
 ⟨λa o e=>⟨L.keep a o (W.k a o e).1 (nl (W.k a o e).2),(W.k a o e).2⟩,W.nd,W.ln.trans ln.symm,λa m e=>W.zs a m (L.live a e),W.zn,c⟩
def kS{i:Nat}(e:f.l[i]? =some a):a∈f.l:=List.mem_of_getElem? e
def vw.fresh(W:vw h f σ)(e:h a=none):vw (h.set a o) f σ:=W.step (oQ W e) rfl λi c q=>by
 cases W.c i c q with
 |mk b z r=>exact⟨b,z,by rw[Hp.bj λy:b=a=>W.some (kS z) (y▸e)];exact jk (oQ W e) r⟩
def vw.put(W:vw h f σ){i:Nat}{c:Cn}(e:f.l[i]? =Option.some a)(r:iP f h c (Option.some o)):vw (h.set a o) f (σ.set i c):=by
 have L:iA h f (h.set a o) f:=Bm (kS e) (W.some (kS e));refine W.step L eJ λj c' q=>?_;by_cases z:i=j
 ·subst z;have l:i<σ.length:=by have:=(dO q).1;rw[eJ]at this;exact this
  rw[List.getElem?_set_self l]at q;obtain rfl:=ar q;exact⟨a,e,by rw[Hp.set_same];exact jk L r⟩
 ·rw[hR z]at q
  cases W.c j c' q with
  |mk b y r'=>exact⟨b,y,by rw[Hp.bj λx:b=a=>z ((List.getElem?_inj (dO e).1 W.nd).mp (e.trans (x▸y).symm))];exact jk L r'⟩
def vw.cell(W:vw h f σ){c:Cn}(e:h a=none)(r:iP f h c (Option.some o)):vw (h.set a o) ⟨f.l++[a],f.z⟩ (σ++[c]):=by
 have L:iA h f (h.set a o) ⟨f.l++[a],f.z⟩:=xk W e;have F:=(W.fresh (o:=o) e)
 refine⟨λb m q=>⟨(F.k b m q).1,L.off (W.k b m q).1 (W.k b m q).2⟩,List.nodup_append.mpr ⟨W.nd,by simp,λx m y n z=>nl (W.new e) (cI n▸z▸m)⟩,by rw[aE,aE,W.ln];rfl,F.zs,λb m q=>(fZ q).elim (W.zn b m) λq=>W.zs b m (cI q▸e),λi c' q=>?_⟩;by_cases l:i<σ.length
 ·rw[fO l]at q
  cases W.c i c' q with
  |mk b z r'=>exact⟨b,L.pre i b z,by rw[Hp.bj λy:b=a=>W.some (kS z) (y▸e)];exact jk L r'⟩
 ·have l2:i=σ.length:=by
   have:=(dO q).1;rw[aE]at this;exact Nat.le_antisymm (Nat.le_of_lt_succ this) (Nat.le_of_not_lt l)
  subst l2;rw[fD (aH _),Nat.sub_self]at q;obtain rfl:=ar q;exact⟨a,by rw[<-W.ln,fD (aH _),Nat.sub_self];rfl,by rw[Hp.set_same];exact jk L r⟩
end
def Wd.new(w:Wd){a:Addr}(o:MO)(e:w.h a=none):Wd:=⟨w.h.set a o,w.f,w.σ,w.ok.fresh e⟩
def Wd.put(w:Wd){i:Nat}{a:Addr}{c:Cn}(o:MO)(e:w.f.l[i]? =some a)(r:iP w.f w.h c (some o)):Wd:=⟨w.h.set a o,w.f,w.σ.set i c,w.ok.put e r⟩
def Wd.cell(w:Wd){a:Addr}{c:Cn}(o:MO)(e:w.h a=none)(r:iP w.f w.h c (some o)):Wd:=⟨w.h.set a o,⟨w.f.l++[a],w.f.z⟩,w.σ++[c],w.ok.cell e r⟩
def Wd.dE(w:Wd){a:Addr}{o:MO}(e:w.h a=none):w.Le (w.new o e):=oQ w.ok e
def Wd.pN(w:Wd){i:Nat}{a:Addr}{c:Cn}{o:MO}(e:w.f.l[i]? =some a)(r:iP w.f w.h c (some o)):w.Le (w.put o e r):=Bm (kS e) (w.ok.some (kS e))
def Wd.jG(w:Wd){a:Addr}{c:Cn}{o:MO}(e:w.h a=none)(r:iP w.f w.h c (some o)):w.Le (w.cell o e r):=xk w.ok e
def Wd.oS(w:Wd){a:Addr}{c:Cn}{o:MO}(e:w.h a=none)(r:iP w.f w.h c (some o)):(w.cell o e r).R (.cell w.σ.length) (.ref a):=by
 show(w.f.l++[a])[w.σ.length]? =some a
 rw[<-w.ok.ln,fD (aH _),Nat.sub_self];rfl
def Wd.fr(w:Wd){a:Addr}(e:w.h a=none):¬w.f.In a:=w.ok.new e
noncomputable def valOf:Tr->bq|.val v=>some v|_=>none
def LL:Cn->Option ah|.buf none ts _=>some ts|.bx s _ _=>some ((SH s).map .val)|_=>none
noncomputable def YE:Cn->Option (aF×ah)|.mV ks ts=>some (ks,ts)|_=>none
def lW(σ:Sg):Tr->Option ah|.lst ts=>some ts|.cell k=>(σ[k]?).bind LL|_=>none
noncomputable def uo:Tr->Option ah|.tup ts=>some ts|_=>none
def uq(σ:Sg):Tr->Option (aF×ah)|.mV ks ts=>some (ks,ts)|.cell k=>(σ[k]?).bind YE|_=>none
def zU(σ:Sg)(t:Tr):Option ah:=(lW σ t).elim (uo t) some
def intOf(t:Tr):Option Int:=(valOf t).bind nu
def strOf(t:Tr):Option Str:=(valOf t).bind n8
def Gy(v:Value):bq:=(fQ v).elim (some v) λj=>none
def Bn(t:Tr):bq:=(valOf t).bind Gy
def lX:ah->ah->fB
 |[],us=>match us with
  |[]=>some true|_::_=>some false
 |x::xs,us=>match us with
  |[]=>some false|y::ys=>(valOf x).bind λv=>(valOf y).bind λw=>(kG v w).bind λa=>(lX xs ys).bind λb=>some (a&&b)
def LM(σ:Sg)(v:Value)(u:Tr):fB:=(zU σ u).bind λj=>(fv v).bind λj=>some false
def YF(σ:Sg)(t u:Tr):fB:=(lW σ t).bind λxs=>(lW σ u).bind λys=>if xs.length=ys.length then lX xs ys else some false
def eqT(σ:Sg)(t u:Tr):fB:=(Bn t).elim ((Bn u).elim (YF σ t u) (LM σ · t)) λv=>(Bn u).elim (LM σ v u) (kG v ·)
def zV(σ:Sg)(x:Tr):ah->fB|[]=>some false|y::ys=>(eqT σ y x).bind λa=>(zV σ x ys).bind λb=>some (a||b)
def YG(σ:Sg)(t u:Tr):fB:=(uq σ u).elim ((zU σ u).bind (zV σ t)) λd=>(strOf t).bind λs=>some ((d.1.zip d.2).lookup s).isSome
def oU:Tr->fB|.val v=>some (lI v)|.any=>none|_=>some false
def isT(t u:Tr):fB:=(oU u).bind λb=>bif b then oU t else none
def xm(t u:Tr)(f:Int->Int->Bool):fB:=(intOf t).bind λa=>(intOf u).bind λb=>some (f a b)
def jw(σ:Sg)(op:CmpOp)(t u:Tr):fB:=match op with|.Eq=>eqT σ t u|.NotEq=>(eqT σ t u).map (!·)|.Lt=>xm t u λa b=>decide (a<b)|.LtE=>xm t u λa b=>decide (a<=b)|.Gt=>xm t u λa b=>decide (a>b)|.GtE=>xm t u λa b=>decide (a>=b)|.Is=>isT t u|.IsNot=>(isT t u).map (!·)|.In=>YG σ t u|.NotIn=>(YG σ t u).map (!·)
def Up{α:Type}(x y:Option α):Prop:=∀a,x=some a->y=some a
section
variable{α β:Type}{x y:Option α}{f g:α->Option β}
def Up.rfl{x:Option α}:Up x x:=λj=>id
def Up.none:Up (none:Option α) y:=(λj e=>eA e)
def Up.bind(h:Up x y)(k:∀a,x=some a->Up (f a) (g a)):Up (x.bind f) (y.bind g):=λb e=>by
 cases x with
 |none=>exact eA e|some a=>rw[h a (Eq.refl _)];exact k a (Eq.refl _) b e
def Up.out{z:Option β}(k:∀a,x=some a->Up (f a) z):Up (x.bind f) z:=λb e=>by
 cases x with
 |none=>exact eA e|some a=>exact k a (Eq.refl _) b e
def Up.elim{z w:Option β}(k:∀a,x=some a->Up (f a) w)(n:x=Option.none->Up z w):Up (x.elim z f) w:=λb e=>by
 cases x with
 |none=>exact n (Eq.refl _) b e|some a=>exact k a (Eq.refl _) b e
def mW{α β:Type}{o:Option α}{f:α->Option β}{z:Option β}{x:β}{C:Prop}(e:o.elim z f=some x)(ks:∀a,o=some a->f a=some x->C)(kn:z=some x->C):C:=by
 cases o with
 |none=>exact kn e|some a=>exact ks a (Eq.refl _) e
def Up.map{x y:fB}(h:Up x y):Up (x.map (!·)) (y.map (!·)):=λb e=>by
 cases x with
 |none=>exact eA e|some a=>rw[h a (Eq.refl _)];exact e
end
section
variable{w:Wd}{t u:Tr}{v z:Value}
def SJ(r:w.R t v):aX (valOf t) λx=>v=x:=by
 cases t with
 |val _=>exact r.1|_=>exact trivial
def nV{x:Value}(r:w.R t v)(e:valOf t=some x):v=x:=az (C:=λx=>v=x) (SJ r) e
def j5{β:Type}{f:Value->Option β}(r:w.R t v):Up ((valOf t).bind f) (f v):=Up.out λx e=>nV r e▸Up.rfl
inductive SeqAt(w:Wd)(g:cj->Option ai)(ts:ah):hJ
 |mk (a vs):g (w.h a)=some vs->w.L ts vs->SeqAt w g ts (.ref a)
def Bo{g:cj->Option ai}{ts:ah}(r:bp v λa=>¬w.f.In a/\Got (g (w.h a)) (jv w.f w.h ts)):SeqAt w g ts v:=kR (C:=λv=>SeqAt w g ts v) r λa q=>by
 cases q.2 with
 |mk vs m q'=>exact⟨a,vs,m,q'⟩
def jl{k:Nat}{c:Cn}{C:hJ}(r:w.R (.cell k) v)(e:w.σ[k]? =some c)(K:∀a,w.f.l[k]? =some a->iP w.f w.h c (w.h a)->C (.ref a)):C v:=kR (C:=C) r λa q=>by
 cases w.ok.c k c e with
 |mk b z y=>
  cases q.symm.trans z;exact K a q y
def ab4{f:Fs}{h:Hp}(s:Bx):jv f h ((SH s).map .val) (SH s):=⟨⟨rfl,rfl⟩,⟨rfl,rfl⟩,⟨rfl,rfl⟩,⟨rfl,rfl⟩,trivial⟩
def LN{f:Fs}{h:Hp}{o:cj}{c:Cn}{ts:ah}(e:LL c=some ts)(r:iP f h c o):Got (fJ o) (jv f h ts):=by
 cases c with
 |buf p us l=>cases p with
  |none=>
   obtain rfl:=ar e;refine r.imp (λj=>id) λvs b=>?_
   cases b with
   |mk us e r _=>subst e;exact r
  |some=>exact eA e
 |mV=>exact eA e|bx s ds l=>obtain rfl:=ar e;exact⟨_,r.1,ab4 s⟩
def SK(r:w.R t v):aX (uo t) λts=>SeqAt w tG ts v:=by
 cases t with
 |tup _=>exact Bo r|_=>exact trivial
def tup_is{ts:ah}(r:w.R t v)(e:uo t=some ts):SeqAt w tG ts v:=az (C:=λts=>SeqAt w tG ts v) (SK r) e
def lst_is{ts:ah}(r:w.R t v)(e:lW w.σ t=some ts):SeqAt w fJ ts v:=by
 cases t with
 |lst _=>obtain rfl:=ar e;exact Bo r|cell k=>
  refine af e λc e1 e=>?_;exact jl (C:=λv=>SeqAt w fJ ts v) r e1 λa j q=>by
   cases LN e q with
   |mk vs m r=>exact⟨a,vs,m,r⟩
 |_=>exact eA e
def SeqAt.to{f g:cj->Option ai}{ts:ah}(s:SeqAt w f ts v)(k:∀o,Up (f o) (g o)):SeqAt w g ts v:=by
 cases s with
 |mk a vs m q=>exact⟨a,vs,k _ _ m,q⟩
def Bp(o:cj):Up (tG o) (dP o):=by
 cases o with
 |none=>exact Up.none|some m=>cases m<;>first|exact Up.none|exact Up.rfl
def oV(o:cj):Up (fJ o) (dP o):=by
 cases o with
 |none=>exact Up.none|some m=>cases m<;>first|exact Up.none|exact Up.rfl
def jm(o:cj):Up (fJ o) (listOf o):=by
 cases o with
 |none=>exact Up.none|some m=>cases m<;>first|exact Up.none|exact Up.rfl
def r9{ts:ah}(r:w.R t v)(e:zU w.σ t=some ts):SeqAt w dP ts v:=
 mW e (λus z e=>ar e▸(lst_is r z).to oV) λe=>(tup_is r e).to Bp
def Gz(v:Value):aX (Gy v) λx=>v=x/\fQ v=none:=by cases v<;>first|exact trivial|exact⟨rfl,rfl⟩
def GA{x:Value}(e:Gy v=some x):v=x/\fQ v=none:=az (C:=λx=>v=x/\fQ v=none) (Gz v) e
def vx{x:Value}(r:w.R t v)(e:Bn t=some x):v=x/\fQ v=none:=GA (j5 r x e)
def GB{ts:ah}:∀{us:ah}{vs ws:ai},w.L ts vs->w.L us ws->Up (lX ts us) (pZ vs ws):=by
 induction ts with
 |nil=>exact λ{us vs ws} r q=>by cases vs with
  |cons=>exact r.elim|nil=>cases us with
   |nil=>cases ws with
    |nil=>exact Up.rfl|cons=>exact q.elim
   |cons=>cases ws with
    |nil=>exact q.elim|cons=>exact Up.rfl
 |cons t ts ih=>exact λ{us vs ws} r q=>by cases vs with
  |nil=>exact r.elim|cons v vs=>cases us with
   |nil=>cases ws with
    |nil=>exact Up.rfl|cons=>exact q.elim
   |cons u us=>cases ws with
    |nil=>exact q.elim|cons w ws=>exact Up.out λx e=>Up.out λy e2=>nV r.1 e▸nV q.1 e2▸Up.bind Up.rfl λa j=>Up.bind (ih r.2 q.2) λb j=>Up.rfl
def SM{h:Hp}(h1:fQ v=none)(h2:fQ z=none):uI h v z=kG v z:=by unfold uI;rw[h1,h2]
def SN{h:Hp}{a:Addr}(h2:fQ z=none):uI h (.ref a) z=(dP (h a)).bind λj=>(fv z).bind λj=>some false:=by unfold uI;rw[h2];rfl
def SP{h:Hp}{a:Addr}(h1:fQ v=none):uI h v (.ref a)=(dP (h a)).bind λj=>(fv v).bind λj=>some false:=by unfold uI;rw[h1];rfl
def Bq(r:w.R u z)(h1:fQ v=none):Up (LM w.σ v u) (uI w.h v z)/\Up (LM w.σ v u) (uI w.h z v):=by
 constructor
 all_goals
  refine Up.out λus e=>?_
  cases r9 r e with
  |mk a vs m q'=>first|(rw[SP h1,m];exact Up.rfl)|(rw[SN h1,m];exact Up.rfl)
def SQ{xs ys:ah}{vs ws:ai}(q1:w.L xs vs)(q2:w.L ys ws):Up (if xs.length=ys.length then lX xs ys else some false) (if vs.length=ws.length then pZ vs ws else some false):=by
 rw[bw q1,bw q2];by_cases l:xs.length=ys.length
 ·rw[av l,av l];exact GB q1 q2
 ·rw[aB l,aB l];exact Up.rfl
def LP(r:w.R t v)(q:w.R u z):Up (YF w.σ t u) (uI w.h v z):=Up.out λxs e=>Up.out λys e2=>by
 cases(lst_is r e).to jm with
 |mk a vs m q1=>cases(lst_is q e2).to jm with
  |mk b ws m2 q2=>
   show Up _ ((listOf (w.h a)).bind λxs=>(listOf (w.h b)).bind λys=>if xs.length=ys.length then pZ xs ys else some false)
   rw[m,m2];exact SQ q1 q2
def zW(r:w.R t v)(q:w.R u z):Up (eqT w.σ t u) (uI w.h v z):=
 Up.elim (λx zt=>by
  obtain⟨rfl,h1⟩:=vx r zt;exact Up.elim (λy zu=>by
   obtain⟨rfl,h2⟩:=vx q zu;rw[SM h1 h2];exact Up.rfl) λj=>(Bq q h1).1) λj=>Up.elim (λy zu=>by
  obtain⟨rfl,h2⟩:=vx q zu;exact(Bq r h2).2) λj=>LP r q
def GC(rx:w.R t v){ys:ah}:∀{ws:ai},w.L ys ws->Up (zV w.σ t ys) (qQ w.h v ws):=by
 induction ys with
 |nil=>exact λ{ws} r=>by cases ws with
  |nil=>exact Up.rfl|cons=>exact r.elim
 |cons y ys ih=>exact λ{ws} r=>by cases ws with
  |nil=>exact r.elim|cons w ws=>exact Up.bind (zW r.1 rx) λj j=>Up.bind (ih r.2) λj j=>Up.rfl
def LQ{f:Int->Int->Bool}(r:w.R t v)(q:w.R u z):Up (xm t u f) (Cy v z f):=Up.bind (j5 r) λj j=>Up.bind (j5 q) λj j=>Up.rfl
end
inductive oW(w:Wd):aT->bq->Prop
 |no:oW w none none
 |yes (t v):w.R t v->oW w (some t) (some v)
inductive Br(w:Wd)(ks:aF)(ts:ah):hJ
 |mk (a vs):dictOf (w.h a)=some (ks.zip vs)->w.L ts vs->Br w ks ts (.ref a)
section
variable{w:Wd}{t u:Tr}{v z:Value}
def key_is{κ:Type}[BEq κ]{ks:List κ}{s:κ}:∀{ts:ah}{vs:ai},w.L ts vs->oW w ((ks.zip ts).lookup s) ((ks.zip vs).lookup s):=by
 induction ks with
 |nil=>exact λj=>.no|cons k ks ih=>
  intro ts vs r
  cases ts with
  |nil=>cases vs with
   |nil=>exact .no|cons=>exact r.elim
  |cons t ts=>cases vs with
   |nil=>exact r.elim|cons v vs=>
    show oW w (match s==k with|true=>some t|false=>(ks.zip ts).lookup s) (match s==k with|true=>some v|false=>(ks.zip vs).lookup s)
    cases s==k with
    |true=>exact .yes t v r.1|false=>exact ih r.2
def oW.isSome{o:aT}{o':bq}(k:oW w o o'):o.isSome=o'.isSome:=by cases k<;>rfl
def oW.on{o:aT}{o':bq}(k:oW w o o'):aX o λt=>Got o' (w.R t):=by
 cases k with
 |no=>exact trivial|yes t v r=>exact⟨v,rfl,r⟩
def oW.got{o:aT}{o':bq}(k:oW w o o')(e:o=some t):Got o' (w.R t):=az (C:=λt=>Got o' (w.R t)) k.on e
def oW.getD{o:aT}{o':bq}(k:oW w o o')(d:w.R t v):w.R (o.getD t) (o'.getD v):=by
 cases k with
 |no=>exact d|yes t v r=>exact r
def LR(o:cj):aX (LJ o) λxs=>o=some (.dict xs):=by
 cases o with
 |none=>exact trivial|some m=>cases m<;>first|exact trivial|exact rfl
def Bs{o:cj}{es:cC}(e:LJ o=some es):o=some (.dict es):=az (C:=λxs=>o=some (.dict xs)) (LR o) e
def xn(o:cj):Up (LJ o) (dictOf o):=by
 cases o with
 |none=>exact Up.none|some m=>cases m<;>first|exact Up.none|exact Up.rfl
def LS(c:Cn):aX (YE c) λd=>c=.mV d.1 d.2:=by cases c<;>first|exact trivial|exact rfl
def dct_is{d:aF×ah}(r:w.R t v)(e:uq w.σ t=some d):Br w d.1 d.2 v:=by
 cases t with
 |mV ks ts=>
  obtain rfl:=ar e;exact kR (C:=λv=>Br w ks ts v) r λa q=>by
   cases q.2 with
   |mk es m q'=>cases q' with
    |mk vs e q'=>exact⟨a,vs,e▸m,q'⟩
 |cell k=>
  refine af e λc e1 e=>?_;cases az (C:=λd=>c=.mV d.1 d.2) (LS c) e;exact jl (C:=λv=>Br w d.1 d.2 v) r e1 λa j q=>by
   cases q with
   |mk es m b=>cases b with
    |mk us e r=>exact⟨a,us,e▸xn _ _ m,r⟩
 |_=>exact eA e
def LU(o:cj):aX (dictOf o) λj=>dP o=none:=by
 cases o with
 |none=>exact trivial|some m=>cases m<;>first|exact trivial|exact rfl
def zX{o:cj}{es:cC}(e:dictOf o=some es):dP o=none:=az (C:=λj=>dP o=none) (LU o) e
def GD(r:w.R t v)(q:w.R u z):Up (YG w.σ t u) ((fQ z).bind λa=>Wf w.h v a):=
 Up.elim (λd y=>by
  cases dct_is q y with
  |mk a vs m q'=>
   show Up _ (match dP (w.h a)with|some ys=>qQ w.h v ys|none=>(dictOf (w.h a)).bind λes=>(n8 v).bind λk=>some (keyOf es k).isSome)
   rw[zX m,m];refine Up.bind (j5 r) λs j=>?_;rw[show(keyOf (d.1.zip vs) s).isSome=((d.1.zip d.2).lookup s).isSome from(key_is q').isSome.symm];exact Up.rfl) λz=>Up.out λys e=>by
  cases r9 q e with
  |mk a vs m q'=>
   show Up _ (match dP (w.h a)with|some ys=>qQ w.h v ys|none=>(dictOf (w.h a)).bind λes=>(n8 v).bind λk=>some (keyOf es k).isSome)
   rw[m];exact GC r q'
def GF(r:w.R t v):aX (oU t) λb=>lI v=b:=by
 cases t with
 |val w=>exact ak lI r.1|txt k=>exact oP (C:=λv=>lI v=false) r λj j j=>rfl|gY=>exact qy (C:=λv=>lI v=false) r λj j j=>rfl|any=>exact trivial|_=>exact kR (C:=λv=>lI v=false) r λj j=>rfl
def xp{b:Bool}(r:w.R t v)(e:oU t=some b):lI v=b:=az (C:=λb=>lI v=b) (GF r) e
def GG(r:w.R t v)(q:w.R u z):Up (isT t u) (VS v z):=λx e=>af e λb e1 e=>by
 cases b with
 |false=>exact eA e|true=>
  unfold VS;rw[xp q e1,km r,xp r e];rfl
def Bt{op:CmpOp}(r:w.R t v)(q:w.R u z):Up (jw w.σ op t u) (qR w.h op v z):=by
 cases op with
 |Eq=>exact zW r q|NotEq=>exact(zW r q).map|Is=>exact GG r q|IsNot=>exact(GG r q).map|In=>exact GD r q|NotIn=>exact(GD r q).map|_=>exact LQ r q
end
noncomputable def kdF:Kd->fB|.fn=>some false|_=>none
def YH(v:Value)(n:String):fB:=match v with|.none=>some false|.bool _=>some (n=="bool"||n=="int")|.int .. =>some (n=="int")|.str .. =>some (n=="str")|.ref a=>kdF (aG.kind a)|_=>none
def LV(σ:Sg)(t:Tr)(n:String):fB:=match t with|.val v=>YH v n|.txt _=>some (n=="str")|.gY=>some (n=="int")|.lst _=>some (n=="list")|.tup _=>some (n=="tuple")|.cell k=>(σ[k]?).bind λc=>(LL c).map λj=>n=="list"|_=>none
section
variable{w:Wd}{t:Tr}{v:Value}{n:String}{b:Bool}
def SR(k:Kd):aX (kdF k) λb=>k=.fn/\b=false:=by cases k<;>first|exact trivial|exact⟨rfl,rfl⟩
def nW{α:Type}{o:Option α}{C D:α->Prop}(h:aX o C)(k:∀a,C a->D a):aX o D:=by
 cases o with
 |none=>exact trivial|some a=>exact k a h
def LW(v:Value)(n:String):aX (YH v n) (TypeIs aG w.h v n):=by
 cases v with
 |ref a=>exact nW (SR _) λb q=>.inr (.inr q)|_=>first|exact trivial|exact rfl
def GH{o:cj}{vs:ai}(e:fJ o=some vs):(listOf o).isSome=true:=by rw[jm o vs e];rfl
def LX(o:cj):aX (tG o) λxs=>o=some (.tup xs):=by
 cases o with
 |none=>exact trivial|some m=>cases m<;>first|exact trivial|exact rfl
def vy{o:cj}{vs:ai}(e:tG o=some vs):o=some (.tup vs):=az (C:=λxs=>o=some (.tup xs)) (LX o) e
def GI{o:cj}{vs:ai}(e:tG o=some vs):∃xs,o=some (.tup xs):=⟨vs,vy e⟩
def Bu{ts:ah}(s:SeqAt w fJ ts v):TypeIs aG w.h v n (n=="list"):=by
 cases s with
 |mk a vs m q=>exact .inl ⟨GH m,rfl⟩
def vz(r:w.R t v)(e:LV w.σ t n=some b):TypeIs aG w.h v n b:=by
 cases t with
 |val x=>exact az (C:=TypeIs aG w.h v n) (r.1▸LW v n) e|txt k=>obtain rfl:=ar e;exact oP (C:=λv=>TypeIs aG w.h v n _) r λj j j=>rfl|gY=>obtain rfl:=ar e;exact qy (C:=λv=>TypeIs aG w.h v n _) r λj j j=>rfl|lst ts=>obtain rfl:=ar e;exact Bu (lst_is r rfl)|tup ts=>obtain rfl:=ar e;cases tup_is r rfl with|mk a vs m q=>exact .inr (.inl ⟨GI m,rfl⟩)
 |cell k=>
  refine af e λc e1 e=>?_;obtain⟨ts,e2,rfl⟩:=dA e;exact Bu (lst_is r (show(w.σ[k]?).bind LL=some ts by rw[e1];exact e2))
 |_=>exact eA e
end
def Kx(w:Wd)(x:Tr)(Q:dm):Prop:=∀w' y,w.Le w'->w'.σ=w.σ->w'.R x y->Q y w'.h
def YI(v:Value):Option Nat:=(n8 v).map λs=>s.cps.size
def qc:Tr->Option Nat|.val v=>YI v|.txt k=>some k|_=>none
noncomputable def isAdd:Operator->Bool|.Add=>true|_=>false
def binI(op:Operator)(a b:Int):aT:=match op with
 |.Add=>some (.val (int (a+b)))|.Sub=>some (.val (int (a-b)))|.Mult=>if a.natAbs<2^60 then some (.val (int (a*b)))else none
 |.Pow=>if 0<=b/\b<=128/\a.natAbs<2^64 then some (.val (int (a^b.toNat)))else none
 |_=>none
def YJ(op:Operator)(u:Tr)(a:Nat):aT:=(qc u).bind λb=>if isAdd op=true/\a+b<=aq then some (.txt (a+b))else none
noncomputable def isMul:Operator->Bool|.Mult=>true|_=>false
def LY(xs:ah)(n:Int):Option ah:=if xs.length*n.toNat<=aq/\n.natAbs<2^62 then some (List.replicate n.toNat xs).flatten else none
def LZ(σ:Sg)(op:Operator)(u:Tr)(xs:ah):Option ah:=bif isMul op then(intOf u).bind (LY xs)else(lW σ u).bind λys=>if isAdd op=true/\(xs++ys).length<=aq then some (xs++ys)else none
def arT(op:Operator)(t u:Tr):aT:=(intOf t).bind λa=>(intOf u).bind λb=>binI op a b
def mX(σ:Sg)(op:Operator)(t u:Tr):aT:=(qc t).elim ((lW σ t).elim (arT op t u) λxs=>(LZ σ op u xs).map .lst) (YJ op u)
section
variable{w:Wd}{t u x:Tr}{v z:Value}{Q:dm}{op:Operator}
def fh{α:Type}{p:Prop}[Decidable p]{x y:α}(e:(if p then some x else none)=some y):p/\x=y:=by
 by_cases z:p
 ·rw[av z]at e;exact⟨z,ar e⟩
 ·rw[aB z]at e;exact eA e
def xq(v:Value):aX (nu v) λi=>gu v (i=·):=by cases v<;>first|exact trivial|exact rfl
def xr(v:Value):aX (n8 v) λi=>onStr v (i=·):=by cases v<;>first|exact trivial|exact rfl
def int_is{i:Int}(r:w.R t v)(e:intOf t=some i):gu v (i=·):=az (C:=λi=>gu v (i=·)) (xq v) (j5 r i e)
def str_is{s:Str}(r:w.R t v)(e:strOf t=some s):onStr v (s=·):=az (C:=λi=>onStr v (i=·)) (xr v) (j5 r s e)
def L9(v:Value):aX (YI v) λk=>onStr v λs=>s.cps.size<=k:=by cases v<;>first|exact trivial|exact aH _
def SU(r:w.R t v):aX (qc t) λk=>onStr v λs=>s.cps.size<=k:=by
 cases t with
 |val w=>cases r.1;exact L9 v|txt k=>exact r|_=>exact trivial
def zY{k:Nat}(r:w.R t v)(e:qc t=some k):onStr v λs=>s.cps.size<=k:=az (C:=λk=>onStr v λs=>s.cps.size<=k) (SU r) e
def xt{op:Operator}(e:isAdd op=true):op=.Add:=by
 have:∀op,mO (isAdd op) (op=.Add) True:=λop=>by cases op<;>first|exact rfl|exact trivial
 have:=this op;rw[e]at this;exact this
def Kx.val{v:Value}(k:Kx w (.val v) Q)(e:handed v=true):Q v w.h:=k w v (.refl w) rfl ⟨rfl,e⟩
def Kx.at{v:Value}(k:Kx w t Q)(r:w.R t v):Q v w.h:=k w v (.refl w) rfl r
def Kn(w:Wd)(ts:ah)(Q:dm):Prop:=∀vs,w.L ts vs->dj (.list vs) w.h Q
def Bv{ts:ah}{vs:ai}{a:Addr}(e:w.h a=none)(r:w.L ts vs):(w.new (.list vs) e).R (.lst ts) (.ref a):=⟨w.fr e,vs,by show fJ (w.h.set a (.list vs) a)=_;rw[Hp.set_same];rfl,(w.dE e).L r⟩
def Kx.lst{ts:ah}{vs:ai}(k:Kx w (.lst ts) Q)(r:w.L ts vs):dj (.list vs) w.h Q:=λa e=>k _ _ (w.dE e) rfl (Bv e r)
def Kx.tup{ts:ah}{vs:ai}(k:Kx w (.tup ts) Q)(r:w.L ts vs):dj (.tup vs) w.h Q:=λa e=>k _ _ (w.dE (o:=.tup vs) e) rfl ⟨w.fr e,vs,by show tG (w.h.set a (.tup vs) a)=_;rw[Hp.set_same];rfl,(w.dE e).L r⟩
def mF{α:Type}{p:Prop}[Decidable p]{y:α}{C:α->Prop}(k:p->C y):aX (if p then some y else none) C:=by
 by_cases z:p
 ·rw[av z];exact k z
 ·rw[aB z];exact trivial
def Mb(op:Operator)(a b:Int):aX (binI op a b) λx=>Kx w x Q->pd op a b w.h Q:=by
 cases op with
 |Add=>exact λk=>k.val rfl|Sub=>exact λk=>k.val rfl|Mult=>exact mF λl k=>⟨.inl l,k.val rfl⟩
 |Pow=>exact mF λl k=>⟨l.1,l.2.1,l.2.2,k.val rfl⟩
 |_=>exact trivial
def Mc{a b:Int}(e:binI op a b=some x)(k:Kx w x Q):pd op a b w.h Q:=az (C:=λx=>Kx w x Q->pd op a b w.h Q) (Mb op a b) e k
def SV{a b:Nat}{s s':Str}(l:a+b<=aq)(h1:s.cps.size<=a)(h2:s'.cps.size<=b)(k:Kx w (.txt (a+b)) Q):AW .Add s w.h Q s':=by
 have sz:(s++s').cps.size=s.cps.size+s'.cps.size:=Array.size_append;exact⟨rfl,aa (cJ h1 h2) l,k.at (show(s++s').cps.size<=a+b by rw[sz];exact cJ h1 h2)⟩
def Md{a:Nat}(h1:onStr v λs=>s.cps.size<=a)(q:w.R u z)(e:YJ op u a=some x)(k:Kx w x Q):lJ op v z w.h Q:=
 af e λb zu e=>by
  obtain⟨l,rfl⟩:=fh e;cases xt l.1;exact oP (C:=λv=>lJ .Add v z w.h Q) h1 λs j h1=>oP (C:=λz=>onStr z (AW .Add s w.h Q)) (zY q zu) λs' j h2=>SV l.2 h1 h2 k
def GJ{op:Operator}(e:isMul op=true):op=.Mult:=by
 have:∀op,mO (isMul op) (op=.Mult) True:=λop=>by cases op<;>first|exact rfl|exact trivial
 have:=this op;rw[e]at this;exact this
def Mf{ts:ah}{vs:ai}(r:w.L ts vs):∀n:Nat,w.L (List.replicate n ts).flatten (List.replicate n vs).flatten:=by
 intro n
 induction n with
 |zero=>exact trivial|succ n ih=>exact hZ r ih
def By{xs ts:ah}(r:SeqAt w fJ xs v)(q:w.R u z)(e:LZ w.σ op u xs=some ts)(k:Kn w ts Q):lJ op v z w.h Q:=by
 cases r with
 |mk a vs m q1=>
  unfold LZ at e
  cases b:isMul op with
  |true=>
   rw[b]at e;cases GJ b;refine af e λn e1 e=>?_;obtain⟨l,rfl⟩:=fh e;exact qy (C:=λz=>lJ .Mult (.ref a) z w.h Q) (int_is q e1) λj j e=>e▸⟨vs,rfl,eN m,by rw[bw q1];exact l.1,l.2,k _ (Mf q1 _)⟩
  |false=>
   rw[b]at e;refine af e λys zu e=>?_;obtain⟨l,rfl⟩:=fh e;cases xt l.1
   cases lst_is q zu with
   |mk b ws m2 q2=>exact⟨vs,ws,rfl,eN m,eN m2,by rw[bw (hZ q1 q2)];exact l.2,k _ (hZ q1 q2)⟩
def SW(r:w.R t v)(q:w.R u z)(e:arT op t u=some x)(k:Kx w x Q):lJ op v z w.h Q:=
 af e λi zi e=>af e λj zj e=>qy (C:=λv=>lJ op v z w.h Q) (int_is r zi) λJ J e1=>qy (C:=λz=>gu z λb=>pd op _ b w.h Q) (int_is q zj) λJ J e2=>e1▸e2▸Mc e k
def Bz(r:w.R t v)(q:w.R u z)(e:mX w.σ op t u=some x)(k:Kx w x Q):lJ op v z w.h Q:=
 mW e (λa zt e=>Md (zY r zt) q e k) λe=>mW e (λxs zl e=>by
  obtain⟨ts,e2,rfl⟩:=dA e;exact By (lst_is r zl) q e2 λvs r=>k.lst r) λe=>SW r q e k
end
noncomputable def objOf:Tr->Option (Addr×List At×ah)|.obj c ns ts=>some (c,ns,ts)|_=>none
def slL(l u:Value)(ts:ah):aT:=(cutAt ts.length 0 l).bind λa=>(cutAt ts.length ts.length u).bind λb=>some (.lst (cut ts a b))
def slT(l u:Value)(ts:ah):aT:=(nu l).bind λi=>if lI u=true/\0<=i/\i<=ts.length then some (.tup (ts.drop i.toNat))else none
def slS(l u:Value)(s:Str):aT:=(cutAt s.cps.size 0 l).bind λa=>(cutAt s.cps.size s.cps.size u).bind λb=>if b<=100 then some (.val (str ⟨(cut s.cps.toList a b).toArray⟩))else none
def slV(σ:Sg)(t:Tr)(l u:Value):aT:=(lW σ t).elim ((uo t).elim ((strOf t).bind (slS l u)) (slT l u)) (slL l u)
def GK(σ:Sg)(t l u:Tr):aT:=(valOf l).bind λl=>(valOf u).bind λu=>slV σ t l u
def ab5(u:Tr)(s:Str):aT:=(intOf u).bind λk=>(place s.cps.size k).bind λj=>(s.cps[j]?).bind λc=>if s.cps.size<=aq then some (.val (str ⟨#[c]⟩))else none
def ab6(u:Tr)(ts:ah):aT:=(intOf u).bind λk=>(place ts.length k).bind λj=>ts[j]?
def ab7(u:Tr)(d:aF×ah):aT:=(strOf u).bind λs=>(d.1.zip d.2).lookup s
def YK(u:Tr)(c:Cn):aT:=match c with
 |.buf (some _) ts _=>(intOf u).bind λk=>if k=-1 then ts.getLast? else none
 |_=>none
def Pe(σ:Sg)(t u:Tr):aT:=match t with|.cell k=>(σ[k]?).bind (YK u)|_=>none
def fq(σ:Sg)(t u:Tr):aT:=(uq σ t).elim ((zU σ t).elim ((strOf t).elim (Pe σ t u) (ab5 u)) (ab6 u)) (ab7 u)
def qd(t:Tr)(a:At):aT:=(objOf t).bind λq=>(q.2.1.zip q.2.2).lookup a
noncomputable def getL:ah->Option (Tr×Tr)
 |[]=>none|k::r=>match r with
  |[]=>some (k,.val .none)|d::r=>match r with
   |[]=>some (k,d)|_::_=>none
def YL(σ:Sg)(t:Tr)(ts:ah):aT:=(uq σ t).bind λd=>(getL ts).bind λq=>(strOf q.1).bind λs=>some (((d.1.zip d.2).lookup s).getD q.2)
section
variable{w:Wd}{t l u x:Tr}{v a b:Value}{Q:dm}
def fL{α:Type}{p:Prop}[Decidable p]{x:Option α}{y:α}(e:(if p then x else none)=some y):p/\x=some y:=by
 by_cases z:p
 ·rw[av z]at e;exact⟨z,e⟩
 ·rw[aB z]at e;exact eA e
def SX{ts:ah}(r:SeqAt w fJ ts v)(e:slL a b ts=some x)(k:Kx w x Q):gH v a b w.h Q:=
 af e λp e1 e=>af e λp' e2 e=>by
  obtain rfl:=ar e
  cases r.to jm with
  |mk c vs m q=>
   rw[<-bw q]at e1 e2;exact .list vs p p' m e1 e2 (k.lst (r7 (xj q)))
def Mg(e:lI v=true):v=.none:=by
 have:∀v,mO (lI v) (v=.none) True:=λv=>by cases v<;>first|exact rfl|exact trivial
 have:=this v;rw[e]at this;exact this
def SY{ts:ah}(r0:w.R (.tup ts) v)(e:slT a b ts=some x)(k:Kx w x Q):gH v a b w.h Q:=
 af e λi e1 e=>by
  obtain⟨l,rfl⟩:=fh e
  cases tup_is r0 rfl with
  |mk c vs m q=>
   refine .tup vs i (vy m) (Mg l.1) e1 l.2.1 (by rw[bw q];exact l.2.2) ?_;by_cases z:i=0
   ·subst z;rw[av rfl];exact k.at r0
   ·rw[aB z];exact k.tup (r7 q)
def S9(t:Tr):aX (uo t) λts=>t=.tup ts:=by cases t<;>first|exact trivial|exact rfl
def Ta{s:Str}(r:onStr v (s=·))(e:slS a b s=some x)(k:Kx w x Q):gH v a b w.h Q:=
 af e λp e1 e=>af e λp' e2 e=>by
  obtain⟨l,rfl⟩:=fh e;exact oP (C:=λv=>gH v a b w.h Q) r λj j e=>e▸⟨p,p',e1,e2,aa l aP,k.val rfl⟩
def Dw(r:w.R t v)(ra:w.R l a)(rb:w.R u b)(e:GK w.σ t l u=some x)(k:Kx w x Q):gH v a b w.h Q:=
 af e λl' e1 e=>af e λu' e2 e=>by
  cases nV ra e1;cases nV rb e2;exact mW e (λts e1 e=>SX (lst_is r e1) e k) λe=>mW e (λts e1 e=>SY (az (C:=λts=>t=.tup ts) (S9 t) e1▸r) e k) λe=>af e λs e1 e=>Ta (str_is r e1) e k
def xu{ts:ah}{vs:ai}(r:w.L ts vs)(e:ts.getLast?=some t):Got vs[vs.length-1]? (w.R t):=pM r (by rw[bw r,<-List.getLast?_eq_getElem?];exact e)
def zZ{n:Nat}(h:0<n):place n (-1)=some (n-1):=by
 cases n with
 |zero=>exact absurd h (Nat.lt_irrefl 0)|succ m=>
  have e:(-1:Int)+((m+1:Nat):Int)=(m:Int):=by rw[Int.add_comm];exact Int.add_neg_cancel_right (m:Int) 1
  unfold place;rw[aB aP,e,av (d9 m)];rfl
def GL{α:Type}{xs us:List α}{y:α}(lu:0<us.length)(e:us[us.length-1]? =some y):(xs++us)[(xs++us).length-1]? =some y:=by
 rw[aE,Nat.add_sub_assoc lu,fD (aW _ _),hU];exact e
def GN(r:w.R t v)(ra:w.R u a)(e:Pe w.σ t u=some x)(k:Kx w x Q):hA v a w.h Q:=by
 cases t with
 |cell n=>
  refine af e λc e1 e=>?_
  cases c with
  |buf p ts l=>cases p with
   |none=>exact eA e|some R=>
    refine af e λi e2 e=>?_;obtain⟨z,e⟩:=fL e;subst z;refine jl (C:=λv=>hA v a w.h Q) r e1 λb j q=>?_
    cases q with
    |mk vs m y=>cases y with
     |mk us e3 ru _=>
      cases xu ru e with
      |mk y e4 ry=>
       have lu:0<us.length:=bP (bO _) (dO e4).1;exact qy (C:=λa=>hA (.ref b) a w.h Q) (int_is ra e2) λj j e=>e▸⟨vs,y,vs.length-1,oV _ _ m,zZ (by rw[e3,aE];exact dI lu (cY _ _)),e3▸GL lu e4,k.at ry⟩
  |_=>exact eA e
 |_=>exact eA e
def Mh(r:w.R t v)(ra:w.R u a)(e:fq w.σ t u=some x)(k:Kx w x Q):hA v a w.h Q:=
 mW e (λd e1 e=>af e λs e2 e=>by
  cases dct_is r e1 with
  |mk c vs m q=>cases(key_is q).got e with
   |mk y e3 ry=>exact oP (C:=λa=>hA (.ref c) a w.h Q) (str_is ra e2) λJ J e=>e▸⟨_,y,m,e3,k.at ry⟩) λe=>mW e (λts e1 e=>af e λi e2 e=>af e λj e3 e=>by
  cases r9 r e1 with
  |mk c vs m q=>cases pM q e with
   |mk y e4 ry=>exact qy (C:=λa=>hA (.ref c) a w.h Q) (int_is ra e2) λJ J e=>e▸⟨vs,y,j,m,by rw[bw q];exact e3,e4,k.at ry⟩) λe=>mW e (λs e1 e=>af e λi e2 e=>af e λj e3 e=>af e λc e4 e=>by
  obtain⟨l,rfl⟩:=fh e;exact oP (C:=λv=>hA v a w.h Q) (str_is r e1) λs' J e=>qy (C:=λa=>gu a (uJ s' w.h Q)) (int_is ra e2) λJ J e'=>e▸e'▸⟨j,c,l,e3,e4,k.val rfl⟩) λe=>GN r ra e k
def z5(r:w.R t v):aX (objOf t) λq=>bp v (V6 w.f w.h q.1 q.2.1 (w.L q.2.2)):=by
 cases t with
 |obj c ns ts=>exact r|_=>exact trivial
def GO{n:At}(r:w.R t v)(e:qd t n=some x)(k:Kx w x Q):uK v n w.h Q:=
 af e λq e1 e=>bu (az (C:=λq=>bp v (V6 w.f w.h q.1 q.2.1 (w.L q.2.2))) (z5 r) e1) λa o=>by
  cases o with
  |mk d vs m1 n1 m2 n2 q=>cases(key_is q).got e with
   |mk y e3 ry=>exact⟨_,d,_,y,m1,m2,e3,km ry,k.at ry⟩
inductive Td(w:Wd)(q:Tr×Tr)(vs:ai):Prop
 |mk (k d):w.R q.1 k->w.R q.2 d->(∀sp a f Q X,onStr k (qU a w.h Q d)->gJ sp (.ref a) .get f vs w.h Q X)->Td w q vs
def Mi{ts:ah}{vs:ai}(r:w.L ts vs):aX (getL ts) λq=>Td w q vs:=by
 cases ts with
 |nil=>exact trivial|cons k ts=>cases vs with
  |nil=>exact r.elim|cons k' vs=>cases ts with
   |nil=>cases vs with
    |nil=>exact⟨k',.none,r.1,⟨rfl,rfl⟩,λj j j j j w=>w⟩|cons=>exact r.2.elim
   |cons d ts=>cases vs with
    |nil=>exact r.2.elim|cons d' vs=>cases ts with
     |nil=>cases vs with
      |nil=>exact⟨k',d',r.1,r.2.1,λj j j j j w=>w⟩|cons=>exact r.2.2.elim
     |cons=>exact trivial
def Mj{ts:ah}{vs:ai}{sp:Spec}{f:Addr}{X:bA}(r:w.R t v)(ra:w.L ts vs)(e:YL w.σ t ts=some x)(k:Kx w x Q):gJ sp v .get f vs w.h Q X:=
 af e λd e1 e=>af e λq e2 e=>af e λs e3 e=>by
  obtain rfl:=ar e
  cases dct_is r e1 with
  |mk a ws m q'=>cases az (C:=λq=>Td w q vs) (Mi ra) e2 with
   |mk k' d' rk rd z=>exact z _ _ _ _ _ (oP (C:=λk'=>onStr k' (qU a w.h Q d')) (str_is rk e3) λj j e=>e▸⟨_,m,k.at ((key_is q').getD rd)⟩)
end
noncomputable def one{α:Type}:List α->Option α
 |[]=>none|t::r=>match r with
  |[]=>some t|_::_=>none
def two{α:Type}:List α->Option (α×α)|[]=>none|t::r=>(one r).map λu=>(t,u)
def YM(v:Value):Option String:=match v with
 |.type n=>if n∈bh then some n else none
 |_=>none
def BA(t:Tr):Option String:=(valOf t).bind YM
def ab8(s:Str):aT:=if s.cps.size<=aq then some (.val (int s.cps.size))else none
def ab9:Cn->aT|.buf (some R) ts _=>some (.val (int (R.length+ts.length:Nat)))|_=>none
def YN(σ:Sg):Tr->aT|.cell k=>(σ[k]?).bind ab9|_=>none
def Tf(σ:Sg)(t:Tr):aT:=(zU σ t).elim ((strOf t).elim (YN σ t) ab8) λus=>some (.val (int us.length))
def aca(σ:Sg)(t u:Tr):aT:=(BA u).bind λx=>(LV σ t x).bind λa=>some (.val (.bool a))
def acb(σ:Sg)(t:Tr)(us:ah):aT:=(two us).bind λq=>(BA q.1).bind λx=>(BA q.2).bind λy=>(LV σ t x).bind λa=>(LV σ t y).bind λb=>some (.val (.bool (a||b)))
def YO(σ:Sg)(q:Tr×Tr):aT:=(uo q.2).elim (aca σ q.1 q.2) (acb σ q.1)
def z6(σ:Sg)(n:String)(ts:ah):aT:=if n="len"then(one ts).bind (Tf σ)else if n="isinstance"then(two ts).bind (YO σ)else none
def Pf:Value->aT|.bool b=>some (.val (int (if b then 1 else 0)))|_=>none
def Th:Value->aT
 |.int i _=>if i.natAbs<2^40 then some (.txt 20)else none
 |.str s _=>some (.val (str s))|_=>none
def Mk(t:Tr):aT:=match t with|.gY=>some (.txt 20)|t=>(valOf t).bind Th
def GP(σ:Sg)(n:String)(ts:ah):aT:=if n="int"then(one ts).bind λt=>(valOf t).bind Pf else if n="str"then(one ts).bind Mk else if n="list"then(one ts).bind λt=>(lW σ t).map .lst else none
section
variable{w:Wd}{t l u x:Tr}{v a b z:Value}{Q:dm}{ts:ah}{vs:ai}{n:String}
def kU(r:w.L ts vs)(e:one ts=some t):sY vs (w.R t):=by
 have:∀ts vs,w.L ts vs->aX (one ts) λt=>sY vs (w.R t):=λts vs r=>by
  cases ts with
  |nil=>exact trivial|cons t ts=>cases vs with
   |nil=>exact r.elim|cons v vs=>cases ts with
    |nil=>cases vs with
     |nil=>exact r.1|cons=>exact r.2.elim
    |cons=>exact trivial
 exact az (C:=λt=>sY vs (w.R t)) (this ts vs r) e
def pO{q:Tr×Tr}(r:w.L ts vs)(e:two ts=some q):OR vs λv z=>w.R q.1 v/\w.R q.2 z:=by
 cases ts with
 |nil=>exact eA e|cons t ts=>cases vs with
  |nil=>exact r.elim|cons v vs=>
   obtain⟨u,e1,rfl⟩:=dA e;have:=kU r.2 e1
   cases vs with
   |nil=>exact this.elim|cons w vs=>cases vs with
    |nil=>exact⟨r.1,this⟩|cons=>exact this.elim
def jn{P P':hJ}(h:sY vs P)(k:∀v,P v->P' v):sY vs P':=by
 cases vs with
 |nil=>exact h|cons v vs=>cases vs with
  |nil=>exact k v h|cons=>exact h
def GQ{P P':Value->hJ}(h:OR vs P)(k:∀v w,P v w->P' v w):OR vs P':=by
 cases vs with
 |nil=>exact h|cons v vs=>exact jn h (k v)
def Ml(v:Value):aX (YM v) λn=>v=.type n/\n∈bh:=by
 cases v with
 |type n=>exact mF λp=>⟨rfl,p⟩
 |_=>exact trivial
def z7(r:w.R t v)(e:BA t=some n):v=.type n/\n∈bh:=az (C:=λn=>v=.type n/\n∈bh) (Ml v) (j5 r n e)
def Mm(r:w.R t v)(e:YN w.σ t=some x)(k:Kx w x Q):tO v w.h Q:=by
 cases t with
 |cell n=>
  refine af e λc e1 e=>?_
  cases c with
  |buf p ts l=>cases p with
   |none=>exact eA e|some R=>
    obtain rfl:=ar e;refine jl (C:=λv=>tO v w.h Q) r e1 λa j q=>?_
    cases q with
    |mk vs m y=>cases y with
     |mk us e3 ru _=>exact⟨vs,oV _ _ m,by rw[e3,aE,bw ru];exact k.val rfl⟩
  |_=>exact eA e
 |_=>exact eA e
def Mn(r:w.R t v)(e:Tf w.σ t=some x)(k:Kx w x Q):tO v w.h Q:=
 mW e (λus e1 e=>by
  obtain rfl:=ar e
  cases r9 r e1 with
  |mk a vs m q=>exact⟨vs,m,by rw[bw q];exact k.val rfl⟩) λe=>mW e (λs e1 e=>by
  obtain⟨l,rfl⟩:=fh e;exact oP (C:=λv=>tO v w.h Q) (str_is r e1) λj j e=>e▸⟨l,k.val rfl⟩) λe=>Mm r e k
def Mo{q:Tr×Tr}(r:w.R q.1 v)(r2:w.R q.2 z)(e:YO w.σ q=some x)(k:Kx w x Q):yA aG v z w.h Q:=
 mW e (λus e1 e=>af e λq' e2 e=>af e λn1 e3 e=>af e λn2 e4 e=>af e λb1 e5 e=>af e λb2 e6 e=>by
  obtain rfl:=ar e
  cases tup_is r2 e1 with
  |mk a vs m rq=>
   have tw:=pO rq e2
   cases vs with
   |nil=>exact tw.elim|cons y vs=>cases vs with
    |nil=>exact tw.elim|cons z vs=>cases vs with
     |cons=>exact tw.elim|nil=>
      obtain⟨rfl,p1⟩:=z7 tw.1 e3;obtain⟨rfl,p2⟩:=z7 tw.2 e4;exact⟨n1,n2,b1,b2,vy m,p1,p2,vz r e5,vz r e6,k.val rfl⟩) λe=>af e λn1 e3 e=>af e λb1 e5 e=>by
  obtain rfl:=ar e;obtain⟨rfl,p1⟩:=z7 r2 e3;exact⟨b1,p1,vz r e5,k.val rfl⟩
def Dx(r:w.L ts vs)(e:z6 w.σ n ts=some x)(k:Kx w x Q):kc aG n vs w.h Q:=by
 unfold z6 at e;by_cases z:n="len"
 ·rw[av z]at e;exact .len z (af e λt e1 e=>jn (kU r e1) λv r=>Mn r e k)
 ·rw[aB z]at e;by_cases z:n="isinstance"
  ·rw[av z]at e;exact .isi z (af e λt e1 e=>GQ (pO r e1) λv z r=>Mo r.1 r.2 e k)
  ·rw[aB z]at e;exact eA e
def GR(s:String):(ofString s).cps.size=s.length:=by rw[Str.ofString_eq_toList];simp;exact String.length_toList
def uu{n:Nat}(le:n<=2^40):n.repr.length<=13:=(Nat.length_repr_le_iff aP).mpr (bP le aP)
def se(i:Int)(e:i.natAbs<2^40):(ofString (toString i)).cps.size<=20:=by
 rw[GR]
 cases i with
 |ofNat n=>exact aa (uu (cM e)) aP|negSucc n=>
  show("-"++Nat.repr (n+1)).length<=20
  rw[String.length_append];exact aa (bc (uu (cM e)) 1) aP
def GS{i:Int}(l:i.natAbs<2^40):qS i:=dI l (Nat.pow_le_pow_right aP aP)
def Mp(v:Value):aX (Th v) λx=>Kx w x Q->mz v w.h Q:=by
 cases v with
 |int i _=>exact mF λl k=>⟨GS l,k.at (se _ l)⟩
 |str s _=>exact λk=>k.val rfl|_=>exact trivial
def Mq(r:w.R t v)(e:Mk t=some x)(k:Kx w x Q):mz v w.h Q:=by
 have val:(valOf t).bind Th=some x->mz v w.h Q:=λe=>az (C:=λx=>Kx w x Q->mz v w.h Q) (Mp v) (j5 r x e) k
 cases t with
 |gY=>obtain rfl:=ar e;exact qy (C:=λv=>mz v w.h Q) r λi j l=>⟨GS l,k.at (se _ l)⟩
 |_=>exact val e
def GU(v:Value):aX (Pf v) λx=>Kx w x Q->dh v λb=>Q (.int (if b then 1 else 0) 0) w.h:=by
 cases v with
 |bool b=>exact λk=>k.val rfl|_=>exact trivial
def GV(r:w.L ts vs)(e:GP w.σ n ts=some x)(k:Kx w x Q):p0 n vs w.h Q:=by
 unfold GP at e;by_cases z:n="int"
 ·rw[av z]at e;exact .int z (af e λt e1 e=>jn (kU r e1) λv r=>az (C:=λx=>Kx w x Q->dh v λb=>Q (.int (if b then 1 else 0) 0) w.h) (GU v) (j5 r x e) k)
 ·rw[aB z]at e;by_cases z:n="str"
  ·rw[av z]at e;exact .str z (af e λt e1 e=>jn (kU r e1) λv r=>Mq r e k)
  ·rw[aB z]at e;obtain⟨z,e⟩:=fL e;refine .list z (af e λt e1 e=>jn (kU r e1) λv r=>?_);obtain⟨us,e2,rfl⟩:=dA e;cases(lst_is r e2)with|mk a vs m q=>exact⟨vs,jm _ _ m,k.lst q⟩
end
abbrev bU:=List aT
noncomputable def Pg(v:Value):MO->Tr|.tup xs=>.tup (xs.map Tr.val)|_=>.val v
def BB(v:Value):Tr:=(fQ v).elim (.val v) λa=>(nU.lookup a).elim (.val v) (Pg v)
def Ph(v:Value):MO->Tr|.tup xs=>.tup (xs.map Tr.val)|.ir es=>.mV (es.map (·.1)) (es.map λe=>BB e.2)|_=>.val v
def globT(v:Value):Tr:=(fQ v).elim (.val v) λa=>(nU.lookup a).elim (.val v) (Ph v)
def GW:MO->Bool|.tup xs=>xs.all handed|.ir es=>es.all λe=>handed e.2|_=>false
def Dy:(nU.all λp=>GW p.2)=true:=aO
def uw{a:Addr}{o:MO}(e:nU.lookup a=some o):GW o=true:=bQ Dy (a,o) (by
 obtain⟨l,r,q,_⟩:=List.lookup_eq_some_iff.mp e;rw[q];exact fC l (.head r))
section
variable{w w':Wd}{t:Tr}{v:Value}{ρt:bU}{ρ:aS}
def aA{a b:Bool}(h:(a&&b)=true):a=true/\b=true:=(dr a b)▸h
def xv{vs:ai}:vs.all handed=true->w.L (vs.map Tr.val) vs:=by
 induction vs with
 |nil=>exact λj=>trivial|cons v vs ih=>exact λe=>⟨⟨rfl,(aA e).1⟩,ih (aA e).2⟩
def BC{a:Addr}{xs:ai}(e:nU.lookup a=some (.tup xs)):w.R (.tup (xs.map Tr.val)) (.ref a):=⟨(w.ok.k a _ e).2,xs,by rw[(w.ok.k a _ e).1];rfl,xv (uw e)⟩
def GX(hv:handed v=true):w.R (BB v) v:=by
 cases v with
 |ref a=>
  show w.R ((nU.lookup a).elim (.val (.ref a)) (Pg (.ref a))) (.ref a)
  cases e:nU.lookup a with
  |none=>exact⟨rfl,rfl⟩|some o=>cases o with
   |tup xs=>exact BC e|_=>exact⟨rfl,rfl⟩
 |_=>exact⟨rfl,hv⟩
def Dz{es:cC}:(es.all λe=>handed e.2)=true->w.L (es.map λe=>BB e.2) (es.map (·.2)):=by
 induction es with
 |nil=>exact λj=>trivial|cons v vs ih=>exact λe=>⟨GX (aA e).1,ih (aA e).2⟩
def GY{es:cC}:es=(es.map (·.1)).zip (es.map (·.2)):=by
 induction es with
 |nil=>rfl|cons e es ih=>exact ak (e::·) ih
def xw(hv:handed v=true):w.R (globT v) v:=by
 cases v with
 |ref a=>
  show w.R ((nU.lookup a).elim (.val (.ref a)) (Ph (.ref a))) (.ref a)
  cases e:nU.lookup a with
  |none=>exact⟨rfl,rfl⟩|some o=>cases o with
   |tup xs=>exact BC e|ir es=>exact⟨(w.ok.k a _ e).2,es,by rw[(w.ok.k a _ e).1];rfl,_,GY,Dz (uw e)⟩|_=>exact⟨rfl,rfl⟩
 |_=>exact⟨rfl,hv⟩
structure gR(w:Wd)(ρt:bU)(ρ:aS):Prop where
 len:ρt.length=ρ.length
 at_:∀(i:Nat)(t:Tr),ρt[i]? =some (some t)->lL ρ[i]? (w.R t)
def nX{o:Option bq}{P P':hJ}(w:lL o P)(k:∀v,P v->P' v):lL o P':=by
 cases o with
 |none=>exact w|some u=>cases u with
  |none=>exact w|some v=>exact k v w
def bo(L:w.Le w')(r:gR w ρt ρ):gR w' ρt ρ:=⟨r.len,λi t e=>nX (r.at_ i t e) λj=>L.R⟩
def qJ(r:gR w ρt ρ)(i:Nat)(q:w.R t v):gR w (ρt.set i (some t)) (ρ.set i (some v)):=by
 refine⟨by rw[eJ,eJ];exact r.len,λj u e=>?_⟩;by_cases z:i=j
 ·subst z;have l:i<ρt.length:=by
   have:=(dO e).1;rw[eJ]at this;exact this
  rw[List.getElem?_set_self l]at e;rw[List.getElem?_set_self (r.len▸l)];cases e;exact q
 ·rw[hR z]at e;rw[hR z];exact r.at_ j u e
noncomputable def mG(ρ:bU):aC->ah->bU
 |[],_=>ρ|i::is,vs=>match vs with
  |[]=>ρ|v::vs=>mG (ρ.set i (some v)) is vs
def xx{is:aC}:∀{ts:ah}{vs:ai}{ρt:bU}{ρ:aS},gR w ρt ρ->w.L ts vs->gR w (mG ρt is ts) (cz ρ is vs):=by
 induction is with
 |nil=>exact λ{ts vs ρt ρ} r _=>(by cases ts<;>cases vs<;>exact r)
 |cons i is ih=>
  intro ts vs ρt ρ r q
  cases ts with
  |nil=>cases vs with
   |nil=>exact r|cons=>exact q.elim
  |cons t ts=>cases vs with
   |nil=>exact q.elim|cons v vs=>exact ih (qJ r i q.1) q.2
end
abbrev Ko:=Tr->Sg->aw
abbrev Ev:=bU->Sg->Ko->aw
abbrev tH:=bU->Sg->(ah->Sg->aw)->aw
abbrev V7:=Tr->Ev
noncomputable def boolOf:Value->fB|.bool b=>some b|_=>none
def BD(t:Tr)(k:Bool->aw):aw:=((valOf t).bind boolOf).bind k
structure Pl where
 w:Wd
 ρt:bU
 ρ:aS
 o:Out
 r:gR w ρt ρ
noncomputable def Pl.at(P:Pl)(w':Wd)(L:P.w.Le w'):Pl:=⟨w',P.ρt,P.ρ,P.o,bo L P.r⟩
def Pl.K(P:Pl)(k:Ko)(Q:dm):Prop:=∀w' t v,P.w.Le w'->w'.R t v->k t w'.σ=some P.o->Q v w'.h
def Pl.Ks(P:Pl)(k:ah->Sg->aw)(Q:ai->bA):Prop:=∀w' t v,P.w.Le w'->w'.L t v->k t w'.σ=some P.o->Q v w'.h
def Te(sp:Spec)(m:E)(f:Ev):Prop:=∀(P:Pl) k Q X,f P.ρt P.w.σ k=some P.o->P.K k Q->eB sp aG P.ρ m P.w.h Q X
def Ts(sp:Spec)(m:E)(f:tH):Prop:=∀(P:Pl) k Q X,f P.ρt P.w.σ k=some P.o->P.Ks k Q->fP sp aG P.ρ m P.w.h Q X
def Tc(sp:Spec)(m:E)(f:V7):Prop:=∀(P:Pl) t v k Q X,f t P.ρt P.w.σ k=some P.o->P.w.R t v->P.K k Q->Jz sp aG P.ρ m v P.w.h Q X
def fT(ts:ah):Cn:=.buf none ts (aq-ts.length)
noncomputable def toCell(c:Cn)(k:Ko)(σ:Sg):aw:=k (.cell σ.length) (σ++[c])
def oX(ts:ah)(k:Ko)(σ:Sg):aw:=if ts.length<=aq then toCell (fT ts) k σ else none
def litE(v:Value):Ev:=λj σ k=>if handed v=true then k (.val v) σ else none
noncomputable def Tj(i:Nat):Ev:=λρ σ k=>(ρ[i]?).bind λt=>t.bind λt=>k t σ
def Pj(v:Value):Ev:=λj σ k=>if handed v=true then k (globT v) σ else none
def YQ(f g:Ev):Ev:=λρ σ k=>f ρ σ λt σ=>BD t λb=>bif b then g ρ σ k else k (.val (.bool false)) σ
def orE(f g:Ev):Ev:=λρ σ k=>f ρ σ λt σ=>BD t λb=>bif b then k (.val (.bool true)) σ else g ρ σ k
def YR(f:Ev):Ev:=λρ σ k=>f ρ σ λt σ=>BD t λb=>k (.val (.bool !b)) σ
def YS(f:Ev):Ev:=λρ σ k=>f ρ σ λt σ=>(intOf t).bind λi=>k (.val (int (-i))) σ
def YT(op:Operator)(f g:Ev):Ev:=λρ σ k=>f ρ σ λt σ=>g ρ σ λu σ=>(mX σ op t u).bind λx=>k x σ
def YU(op:Operator)(f g:Ev):Ev:=λρ σ k=>f ρ σ λt σ=>g ρ σ λu σ=>(lW σ t).elim ((mX σ op t u).bind λx=>k x σ) λxs=>(LZ σ op u xs).bind λts=>oX ts k σ
def Tn(c f g:Ev):Ev:=λρ σ k=>c ρ σ λt σ=>BD t λb=>bif b then f ρ σ k else g ρ σ k
noncomputable def Pk(ks:aF)(f:tH):Ev:=λρ σ k=>f ρ σ λts σ=>k (.mV ks ts) σ
def Pm(ks:aF)(f:tH):Ev:=λρ σ k=>f ρ σ λts σ=>toCell (.mV ks ts) k σ
noncomputable def listE(f:tH):Ev:=λρ σ k=>f ρ σ λts σ=>k (.lst ts) σ
def Pn(f:tH):Ev:=λρ σ k=>f ρ σ λts σ=>oX ts k σ
noncomputable def To(f:tH):Ev:=λρ σ k=>f ρ σ λts σ=>k (.tup ts) σ
noncomputable def YV(f:Ev)(g:V7):Ev:=λρ σ k=>f ρ σ λt σ=>g t ρ σ k
def YW(op:CmpOp)(nl:Bool)(f:Ev)(g:V7):V7:=λt ρ σ k=>f ρ σ λu σ=>(jw σ op t u).bind λb=>bif nl then k (.val (.bool b)) σ else bif b then g u ρ σ k else k (.val (.bool false)) σ
def Po(f:Ev)(a:At):Ev:=λρ σ k=>f ρ σ λt σ=>(qd t a).bind λx=>k x σ
def YX(f g:Ev):Ev:=λρ σ k=>f ρ σ λt σ=>g ρ σ λu σ=>(fq σ t u).bind λx=>k x σ
def GZ(f g g':Ev):Ev:=λρ σ k=>f ρ σ λt σ=>g ρ σ λa σ=>g' ρ σ λb σ=>(GK σ t a b).bind λx=>k x σ
noncomputable def YY:tH:=λj σ k=>k [] σ
noncomputable def G0(f:Ev)(g:tH):tH:=λρ σ k=>f ρ σ λt σ=>g ρ σ λts σ=>k (t::ts) σ
section
variable{sp:Spec}{w w':Wd}{t u:Tr}{v z:Value}{o:Out}{P:Pl}
def DA(v:Value):aX (boolOf v) λb=>dh v (b=·):=by cases v<;>first|exact trivial|exact rfl
def xA{P P':Bool->Prop}(w:dh v P)(k:∀b,P b->P' b):dh v P':=by cases v<;>first|exact w.elim|exact k _ w
def nY{k:Bool->aw}{C:Bool->Prop}(r:w.R t v)(e:BD t k=some o)(f:∀b,k b=some o->C b):dh v C:=
 af e λb e1 e=>xA (az (C:=λb=>dh v (b=·)) (DA v) (j5 r b e1)) λb' q=>q▸f b e
def iY{b:Bool}{x y:aw}{A B:Prop}(e:(bif b then x else y)=some o)(f:x=some o->A)(g:y=some o->B):mO b A B:=by
 cases b with
 |true=>exact f e|false=>exact g e
def G1{p:Prop}[Decidable p]{x:aw}{C:Prop}(e:(if p then x else none)=some o)(k:p->x=some o->C):C:=by
 by_cases z:p
 ·rw[av z]at e;exact k z e
 ·rw[aB z]at e;exact eA e
def Pl.K.on{k:Ko}{Q:dm}(K:P.K k Q)(L:P.w.Le w'):(P.at w' L).K k Q:=λw2 t v L2=>K w2 t v (L.trans L2)
def Pl.K.val{k:Ko}{Q:dm}{v:Value}(K:P.K k Q)(L:P.w.Le w')(e:k (.val v) w'.σ=some P.o)(hv:handed v=true):Q v w'.h:=K w' (.val v) v L ⟨rfl,hv⟩ e
def Pl.K.kx{k:Ko}{Q:dm}{x:Tr}(K:P.K k Q)(L:P.w.Le w')(e:k x w'.σ=some P.o):Kx w' x Q:=λw2 y L2 s r=>K w2 x y (L.trans L2) r (s▸e)
def sf{f:Fs}{h:Hp}{ts:ah}{vs:ai}(r:jv f h ts vs)(l:ts.length<=aq):iP f h (fT ts) (some (.list vs)):=⟨vs,rfl,vs,rfl,r,by rw[bw r];exact Nat.le_of_eq (Nat.add_sub_cancel' l)⟩
def Pl.K.cell{k:Ko}{Q:dm}{ts:ah}(K:P.K k Q)(L:P.w.Le w')(e:oX ts k w'.σ=some P.o):Kn w' ts Q:=λvs r a ea=>G1 e λl e=>K (w'.cell (.list vs) ea (sf r l)) _ _ (L.trans (w'.jG ea (sf r l))) (w'.oS ea (sf r l)) e
variable{l r m:E}{f g f':Ev}{fs:tH}{fc:V7}
def YZ:Te sp (.lit v) (litE v):=λP k Q X e K=>G1 e λhv e=>K.val (.refl _) e hv
def Y0{i:Nat}:Te sp (.loc i) (Tj i):=λP k Q X e K=>af e λt e1 e=>af e λt' e2 e=>nX (P.r.at_ i t' (e2▸e1)) λv r=>K _ _ v (.refl _) r e
def Tp:Te sp (.glob v) (Pj v):=λP k Q X e K=>G1 e λhv e=>K _ _ v (.refl _) (xw hv) e
def Y1(hf:Te sp l f)(hg:Te sp r g):Te sp (.and l r) (YQ f g):=λP k Q X e K=>hf P _ _ X e λw' t v L r e=>nY r e λb e=>iY e (λe=>hg (P.at w' L) k Q X e (K.on L)) λe=>K.val L e rfl
def acd(hf:Te sp l f)(hg:Te sp r g):Te sp (.or l r) (orE f g):=λP k Q X e K=>hf P _ _ X e λw' t v L r e=>nY r e λb e=>iY e (λe=>K.val L e rfl) λe=>hg (P.at w' L) k Q X e (K.on L)
def Y2(hf:Te sp m f):Te sp (.not m) (YR f):=λP k Q X e K=>hf P _ _ X e λw' t v L r e=>nY r e λb e=>K.val L e rfl
def kW{P P':Int->Prop}(w:gu v P)(k:∀b,P b->P' b):gu v P':=by cases v<;>first|exact w.elim|exact k _ w
def Y3(hf:Te sp m f):Te sp (.neg m) (YS f):=λP k Q X e K=>hf P _ _ X e λw' t v L r e=>af e λi e1 e=>kW (int_is r e1) λi' q=>q▸K.val L e rfl
def Y4{op:Operator}(hf:Te sp l f)(hg:Te sp r g):Te sp (.bin op l r) (YT op f g):=λP k Q X e K=>hf P _ _ X e λw1 t v L r e=>hg (P.at w1 L) _ _ X e λw2 u z L2 q e=>af e λx e1 e=>Bz (L2.R r) q e1 (K.kx (L.trans L2) e)
def Y5{op:Operator}(hf:Te sp l f)(hg:Te sp r g):Te sp (.bin op l r) (YU op f g):=λP k Q X e K=>hf P _ _ X e λw1 t v L r e=>hg (P.at w1 L) _ _ X e λw2 u z L2 q e=>mW e (λxs z e=>af e λts e1 e=>By (lst_is (L2.R r) z) q e1 (K.cell (L.trans L2) e))
 λe=>af e λx e1 e=>Bz (L2.R r) q e1 (K.kx (L.trans L2) e)
def Pp{c:E}(hc:Te sp c f')(hf:Te sp l f)(hg:Te sp r g):Te sp (.ite c l r) (Tn f' f g):=λP k Q X e K=>hc P _ _ X e λw' t v L r e=>nY r e λb e=>iY e (λe=>hf (P.at w' L) k Q X e (K.on L)) λe=>hg (P.at w' L) k Q X e (K.on L)
def Tq(hf:Ts sp m fs):Te sp (.list m) (listE fs):=λP k Q X e K=>hf P _ _ X e λw' ts vs L r e=>(K.kx L e).lst r
def Tu(hf:Ts sp m fs):Te sp (.list m) (Pn fs):=λP k Q X e K=>hf P _ _ X e λw' ts vs L r e=>K.cell L e vs r
def Pq(hf:Ts sp m fs):Te sp (.tup m) (To fs):=λP k Q X e K=>hf P _ _ X e λw' ts vs L r e=>(K.kx L e).tup r
def Mr{ks:aF}{ts:ah}{vs:ai}{a:Addr}(e:w.h a=none)(r:w.L ts vs):(w.new (.dict (ks.zip vs)) e).R (.mV ks ts) (.ref a):=⟨w.fr e,_,by show dictOf (w.h.set a _ a)=_;rw[Hp.set_same];rfl,vs,rfl,(w.dE e).L r⟩
def Tv{ks:aF}(hf:Ts sp m fs):Te sp (.dict ks m) (Pk ks fs):=λP k Q X e K=>hf P _ _ (λj=>False) e λw' ts vs L r e a ea=>K.kx L e _ _ (w'.dE ea) rfl (Mr ea r)
def Tw{ks:aF}(hf:Ts sp m fs):Te sp (.dict ks m) (Pm ks fs):=λP k Q X e K=>hf P _ _ (λj=>False) e λw' ts vs L r e a ea=>
 have rc:iP w'.f w'.h (.mV ks ts) (some (.dict (ks.zip vs))):=⟨_,rfl,vs,rfl,r⟩
 K (w'.cell _ ea rc) _ _ (L.trans (w'.jG ea rc)) (w'.oS ea rc) e
def Y6(hf:Te sp l f)(hg:Tc sp r fc):Te sp (.cmp l r) (YV f fc):=λP k Q X e K=>hf P _ _ X e λw' t v L r e=>hg (P.at w' L) t v k Q X e r (K.on L)
def Y7{op:CmpOp}(hf:Te sp l f)(hg:Tc sp r fc):Tc sp (.jz op l r) (YW op r.isNil f fc):=λP t v k Q X e rt K=>hf P _ _ X e λw' u z L ru e=>af e λb e1 e=>⟨b,Bt (L.R rt) ru b e1,iY e (λe=>K.val L e rfl) λe=>iY e (λe=>hg (P.at w' L) u z k Q X e ru (K.on L)) λe=>K.val L e rfl⟩
def Tz{a:At}(hf:Te sp m f):Te sp (.attr m a) (Po f a):=λP k Q X e K=>hf P _ _ X e λw' t v L r e=>af e λx e1 e=>GO r e1 (K.kx L e)
def Y8(hf:Te sp l f)(hg:Te sp r g):Te sp (.idx l r) (YX f g):=λP k Q X e K=>hf P _ _ X e λw1 t v L r e=>hg (P.at w1 L) _ _ X e λw2 u z L2 q e=>af e λx e1 e=>Mh (L2.R r) q e1 (K.kx (L.trans L2) e)
def Ms{c:E}(hf:Te sp l f)(hg:Te sp r g)(hc:Te sp c f'):Te sp (.slice l r c) (GZ f g f'):=λP k Q X e K=>hf P _ _ X e λw1 t v L r e=>hg (P.at w1 L) _ _ X e λw2 u z L2 q e=>hc ((P.at w1 L).at w2 L2) _ _ X e λw3 u' z' L3 q' e=>af e λx e1 e=>Dw ((L2.trans L3).R r) (L3.R q) q' e1 (K.kx ((L.trans L2).trans L3) e)
def G2:Ts sp .nil YY:=λP k Q X e K=>K _ [] [] (.refl _) trivial e
def BE(hf:Te sp l f)(hg:Ts sp r fs):Ts sp (.cons l r) (G0 f fs):=λP k Q X e K=>hf P _ _ X e λw1 t v L r e=>hg (P.at w1 L) _ _ X e λw2 ts vs L2 q e=>K w2 (t::ts) (v::vs) (L.trans L2) ⟨L2.R r,q⟩ e
end
noncomputable def ny(σ:Sg):Tr->Option (Nat×Cn)
 |.cell k=>(σ[k]?).map λc=>(k,c)
 |_=>none
noncomputable def cellK(σ:Sg):Tr->Nat|.cell k=>k|_=>σ.length
noncomputable def room:ah->Nat->Option Nat
 |[],l=>some l|_::us,l=>match l with
  |0=>none|n+1=>room us n
def ace(us:ah):Cn->Option Cn|.buf p ts left=>(room us left).map λl=>.buf p (ts++us) l|_=>none
noncomputable def acf(x:Tr):Cn->Option Cn
 |.buf p ts left=>match left with
  |0=>none|l+1=>some (.buf p (ts++[x]) l)
 |_=>none
def mH(σ:Sg)(t x:Tr):Option Sg:=(ny σ t).bind λq=>(acf x q.2).map (σ.set q.1)
def BG(σ:Sg)(t u:Tr):Option Sg:=(ny σ t).bind λq=>if q.1=cellK σ u then none else(lW σ u).bind λus=>(ace us q.2).map (σ.set q.1)
noncomputable def z8(ts:ah):Option (Tr×ah):=ts.getLast?.map λt=>(t,ts.dropLast)
def acg:Cn->Option (Tr×Cn)
 |.buf p ts left=>(z8 ts).map λq=>(q.1,.buf p q.2 (left+1))
 |_=>none
def z9(σ:Sg)(t:Tr):Option (Tr×Sg):=(ny σ t).bind λq=>(acg q.2).map λy=>(y.1,σ.set q.1 y.2)
noncomputable def Pr(i:Int):Cn->Option (Tr×Cn)
 |.buf none ts left=>if 0<=i then(ts[i.toNat]?).map λt=>(t,.buf none (ts.eraseIdx i.toNat) left)else none
 |_=>none
def Pu(σ:Sg)(t:Tr)(i:Int):Option (Tr×Sg):=(ny σ t).bind λq=>(Pr i q.2).map λy=>(y.1,σ.set q.1 y.2)
noncomputable def ach(i:Int)(x:Tr):Cn->Option Cn
 |.buf none ts left=>if 0<left/\0<=i/\i<=ts.length then some (.buf none (ts.insertIdx i.toNat x) (left-1))else none
 |_=>none
def TA(σ:Sg)(t:Tr)(i:Int)(x:Tr):Option Sg:=(ny σ t).bind λq=>(ach i x q.2).map (σ.set q.1)
def TB(w:Wd)(σ:Sg)(K:bA):Prop:=∀w',w.Le w'->w'.σ=σ->K w'.h
section
variable{w:Wd}{t u x:Tr}{v y:Value}{σ:Sg}{Q:dm}{K:bA}
inductive pP(w:Wd)(k:Nat)(c:Cn):hJ
 |mk (a):w.f.l[k]? =some a->iP w.f w.h c (w.h a)->pP w k c (.ref a)
def Mt(r:w.R t v):aX (ny w.σ t) λq=>pP w q.1 q.2 v:=by
 cases t with
 |cell k=>
  show aX ((w.σ[k]?).map λc=>(k,c)) λq=>pP w q.1 q.2 v
  cases e:w.σ[k]? with
  |none=>exact trivial|some c=>exact jl (C:=λv=>pP w k c v) r e λa e q=>⟨a,e,q⟩
 |_=>exact trivial
def jH{q:Nat×Cn}(r:w.R t v)(e:ny w.σ t=some q):pP w q.1 q.2 v:=az (C:=λq=>pP w q.1 q.2 v) (Mt r) e
def TB.put{k:Nat}{a:Addr}{c:Cn}{o:MO}(h:TB w (w.σ.set k c) K)(e:w.f.l[k]? =some a)(r:iP w.f w.h c (some o)):K (w.h.set a o):=h (w.put o e r) (w.pN e r) rfl
def map_set{o:Option Cn}{k:Nat}{C:Prop}(e:o.map (w.σ.set k)=some σ)(h:∀c,o=some c->σ=w.σ.set k c->C):C:=by
 obtain⟨c,e2,rfl⟩:=dA e;exact h c e2 rfl
def ux(r:w.R t v)(rx:w.R x y)(e:mH w.σ t x=some σ)(h:TB w σ (Q .none)):bp v λa=>ke a w.h Q y:=
 af e λq e1 e=>map_set e λc' e2 z=>by
  cases jH r e1 with
  |mk a ea rc=>
   subst z;revert rc e2
   cases q.2 with
   |buf p ts left=>cases left with
    |zero=>exact λe=>eA e|succ l=>
     intro e2 rc;obtain rfl:=ar e2
     cases rc with
     |mk vs m b=>cases b with
      |mk us ev ru lm=>exact⟨vs,eN m,dI (Nat.lt_add_of_pos_right (Nat.succ_pos l)) lm,h.put ea ⟨vs++[y],rfl,us++[y],by rw[ev,aQ],hZ ru ⟨rx,trivial⟩,by rw[aE,Nat.add_right_comm];exact lm⟩⟩
   |_=>exact λe=>eA e
def Mu{us:ah}:∀{l m:Nat},room us l=some m->m+us.length=l:=by
 induction us with
 |nil=>exact λe=>(ar e).symm|cons u us ih=>exact λ{l m} e=>by cases l with
  |zero=>exact eA e|succ l=>exact ak (·+1) (ih (show room us l=some m from e))
def G3{k:Nat}{c:Cn}{a b:Addr}(e:w.f.l[k]? =some a)(r:w.R u (.ref b))(s:(lW w.σ u).isSome=true)(n:¬k=cellK w.σ u):a≠b:=λz=>by
 subst z
 cases u with
 |cell j=>exact n ((List.getElem?_inj (dO e).1 w.ok.nd).mp (e.trans (show w.f.l[j]? =some a from r).symm))|lst ts=>exact r.1 (.inl (kS e))|_=>exact iM s
def DB(r:w.R t v)(ru:w.R u y)(e:BG w.σ t u=some σ)(h:TB w σ (Q .none)):bp v λa=>bp y (n9 a w.h Q):=
 af e λq e1 e=>by
  by_cases n:q.1=cellK w.σ u
  ·rw[av n]at e;exact eA e
  ·rw[aB n]at e;refine af e λus e2 e=>map_set e λc' e3 z=>?_
   cases jH r e1 with
   |mk a ea rc=>cases lst_is ru e2 with
    |mk b ws m2 q2=>
     subst z;revert rc e3
     cases q.2 with
     |buf p ts left=>
      intro e3 rc;obtain⟨l',e4,rfl⟩:=dA e3
      cases rc with
      |mk vs m bb=>cases bb with
       |mk us' ev ru' lm=>
        have ll:(vs++ws).length+l'<=aq:=by rw[aE,bw q2,bf,fg us.length,Mu e4];exact lm
        exact⟨vs,ws,eN m,eN m2,G3 (c:=.buf p ts left) ea ru (by rw[e2];rfl) n,aa (aW ..) ll,h.put ea ⟨vs++ws,rfl,us'++ws,by rw[ev,aQ],hZ ru' q2,ll⟩⟩
     |_=>exact λe=>eA e
def Aa{ts:ah}{vs:ai}(r:w.L ts vs)(e:ts.getLast?=some t):∃us v,vs=us++[v]/\w.L ts.dropLast us/\w.R t v:=by
 obtain⟨a,rfl⟩:=List.getLast?_eq_some_iff.mp e;have:=Du r;have l:=bw r;rw[aE]at l;obtain⟨h1,h2⟩:=this
 cases z:vs.drop a.length with
 |nil=>rw[z]at h2;exact h2.elim|cons x xs=>
  rw[z]at h2;refine⟨vs.take a.length,x,?_,by rw[List.dropLast_concat];exact h1,h2.1⟩;have hx:xs=[]:=by cases xs with|nil=>rfl|cons=>exact h2.2.elim
  rw[<-hx,<-z];exact(List.take_append_drop _ _).symm
def TC{x:Tr×Sg}(r:w.R t v)(e:z9 w.σ t=some x)(h:∀w' y,w.Le w'->w'.σ=x.2->w'.R x.1 y->Q y w'.h):bp v λa=>AZ a w.h Q:=
 af e λq e1 e=>by
  obtain⟨c',e3,rfl⟩:=dA e
  cases jH r e1 with
  |mk a ea rc=>
   revert rc e3
   cases q.2 with
   |buf p ts left=>
    intro e3 rc;obtain⟨l',e4,rfl⟩:=dA e3;obtain⟨t',e5,rfl⟩:=dA e4
    cases rc with
    |mk vs m bb=>cases bb with
     |mk us ev ru lm=>
      obtain⟨us1,y,rfl,r1,r2⟩:=Aa ru e5;have TF:iP w.f w.h (.buf p ts.dropLast (left+1)) (some (.list (LK p++us1))):=⟨_,rfl,us1,rfl,r1,by rw[ev,<-aQ,aE,Nat.add_right_comm]at lm;exact lm⟩
      exact⟨LK p++us1,y,by rw[eN m,ev,aQ],h (w.put _ ea TF) y (w.pN ea TF) rfl ((w.pN ea TF).R r2)⟩
   |_=>exact λe=>eA e
end
noncomputable def aci(p:Option ai)(ts:ah)(left:Nat)(x:Tr)(i:Int):Option Cn:=match p with
 |none=>if 0<=i/\i<ts.length then some (.buf none (ts.set i.toNat x) left)else none
 |some _=>none
def acj(ks:aF)(ts:ah)(x:Tr)(s:Str):Option Cn:=if ks.length=ts.length/\ks.length<aq/\((ks.zip ts).lookup s).isNone=true then some (.mV (ks++[s]) (ts++[x]))else none
def setC(j:Value)(x:Tr):Cn->Option Cn|.buf p ts left=>(nu j).bind (aci p ts left x)|.mV ks ts=>(n8 j).bind (acj ks ts x)|_=>none
def sh(σ:Sg)(t u x:Tr):Option Sg:=(ny σ t).bind λq=>(valOf u).bind λj=>(setC j x q.2).map (σ.set q.1)
section
variable{w:Wd}{t u x:Tr}{v y z:Value}{σ:Sg}{Q:dm}{K:bA}
def oW.isNone{o:aT}{o':bq}(k:oW w o o')(e:o.isNone=true):o'=none:=by
 cases k with
 |no=>rfl|yes=>exact iM e
def TG(r:w.R t v)(ru:w.R u z)(rx:w.R x y)(e:sh w.σ t u x=some σ)(h:TB w σ K):bp v λa=>gG z (gL y w.h K a) (jV y w.h K a) λJ=>False:=
 af e λq e1 e=>af e λj e2 e=>map_set e λc' e3 q'=>by
  subst q';cases nV ru e2
  cases jH r e1 with
  |mk a ea rc=>
   revert rc e3
   cases q.2 with
   |buf p ts left=>
    intro e3 rc;refine af e3 λi e4 e5=>?_
    cases p with
    |some _=>exact eA e5|none=>
     obtain⟨l,rfl⟩:=fh e5
     cases rc with
     |mk vs m b=>cases b with
      |mk us ev ru lm=>
       cases ev;exact qy (C:=λz=>gG z (gL y w.h K a) (jV y w.h K a) λJ=>False) (az (C:=λi=>gu z (i=·)) (xq z) e4) λJ J e=>e▸⟨us,eN m,l.1,by rw[bw ru];exact l.2,h.put ea ⟨_,rfl,us.set i.toNat y,rfl,Bl rx ru,by rw[eJ];exact lm⟩⟩
   |mV ks ts=>
    intro e3 rc;refine af e3 λs e4 e5=>?_;obtain⟨l,rfl⟩:=fh e5
    cases rc with
    |mk es m b=>cases b with
     |mk us ev ru=>
      have lz:ks.length=us.length:=l.1.trans (bw ru).symm;exact oP (C:=λz=>gG z (gL y w.h K a) (jV y w.h K a) λJ=>False) (az (C:=λi=>onStr z (i=·)) (xr z) e4) λJ J e=>e▸⟨es,Bs m,by rw[ev];exact(key_is ru).isNone l.2.2,by rw[ev,List.length_zip,<-lz,Nat.min_self];exact l.2.1,h.put ea ⟨_,rfl,us++[y],by rw[ev,List.zip_append lz];rfl,hZ ru ⟨rx,trivial⟩⟩⟩
   |_=>exact λe=>eA e
def DC{ts:ah}:∀{vs:ai}{i:Nat},w.L ts vs->w.L (ts.eraseIdx i) (vs.eraseIdx i):=by
 induction ts with
 |nil=>exact λ{vs i} r=>by cases vs with
  |nil=>exact r|cons=>exact r.elim
 |cons u ts ih=>exact λ{vs i} r=>by cases vs with
  |nil=>exact r.elim|cons w ws=>cases i with
   |zero=>exact r.2|succ i=>exact⟨r.1,ih r.2⟩
def Mv{x:Tr}{y:Value}(rx:w.R x y){i:Nat}:∀{ts:ah}{vs:ai},w.L ts vs->w.L (ts.insertIdx i x) (vs.insertIdx i y):=by
 induction i with
 |zero=>exact λr=>⟨rx,r⟩
 |succ i ih=>exact λ{ts vs} r=>by cases ts with
  |nil=>cases vs with
   |nil=>exact r|cons=>exact r.elim
  |cons t ts=>cases vs with
   |nil=>exact r.elim|cons v vs=>exact⟨r.1,ih r.2⟩
def Mw{x:Tr×Sg}{i:Int}(r:w.R t v)(e:Pu w.σ t i=some x)(h:∀w' y,w.Le w'->w'.σ=x.2->w'.R x.1 y->Q y w'.h):bp v λa=>uL a w.h Q i:=
 af e λq e1 e=>by
  obtain⟨c',e3,rfl⟩:=dA e
  cases jH r e1 with
  |mk a ea rc=>
   revert rc e3
   cases q.2 with
   |buf p ts left=>cases p with
    |some _=>exact λe=>eA e|none=>
     intro e3 rc;obtain⟨l,e4⟩:=fL e3;obtain⟨t',e5,rfl⟩:=dA e4
     cases rc with
     |mk vs m bb=>cases bb with
      |mk us ev ru lm=>
       cases ev
       cases pM ru e5 with
       |mk y e6 ry=>
        have li:i<us.length:=(Int.toNat_lt l).mp (dO e6).1;have TF:iP w.f w.h (.buf none (ts.eraseIdx i.toNat) left) (some (.list (us.eraseIdx i.toNat))):=⟨_,rfl,_,rfl,DC ru,aa (hV (List.length_eraseIdx_le ..) _) lm⟩
        exact⟨us,y,eN m,l,li,e6,h (w.put _ ea TF) y (w.pN ea TF) rfl ((w.pN ea TF).R ry)⟩
   |_=>exact λe=>eA e
def TH{i:Int}(r:w.R t v)(rx:w.R x y)(e:TA w.σ t i x=some σ)(h:TB w σ (Q .none)):bp v λa=>oa a w.h Q y i:=
 af e λq e1 e=>map_set e λc' e3 q'=>by
  subst q'
  cases jH r e1 with
  |mk a ea rc=>
   revert rc e3
   cases q.2 with
   |buf p ts left=>cases p with
    |some _=>exact λe=>eA e|none=>
     intro e3 rc;obtain⟨l,rfl⟩:=fh e3
     cases rc with
     |mk vs m bb=>cases bb with
      |mk us ev ru lm=>
       cases ev;have ll:=bw ru;have lm':us.length+left<=aq:=lm;have li:i<=(us.length:Int):=by rw[ll];exact l.2.2
       exact⟨us,eN m,dI (Nat.lt_add_of_pos_right l.1) lm',l.2.1,li,h.put ea ⟨_,rfl,_,rfl,Mv rx ru,by rw[List.length_insertIdx_of_le_length (Int.toNat_le.mpr li),bf,Nat.add_sub_cancel' l.1];exact lm'⟩⟩
   |_=>exact λe=>eA e
end
abbrev Cl:=Addr->ah->Sg->aw
def Kr(w:Wd)(t:Tr)(σ:Sg)(Q:dm):Prop:=∀w' v,w.Le w'->w'.σ=σ->w'.R t v->Q v w'.h
structure iK(sp:Spec)(cl:Cl):Prop where
 fn:∀{a ts o vs}{w:Wd}{Q:dm}{X:bA},aG.kind a=.fn->cl a ts w.σ=some o->w.L ts vs->(∀t σ,o=.ret t σ->Kr w t σ Q)->(o=.bad->∀w',w.Le w'->X w'.h)->sp a vs w.h Q X
 call:∀{a ts t σ vs}{w:Wd}{Q:dm}{X:bA},cl a ts w.σ=some (.ret t σ)->w.L ts vs->Kr w t σ Q->dD sp aG vs w.h Q X a
noncomputable def vA:Out->Option (Tr×Sg)|.ret t σ=>some (t,σ)|_=>none
noncomputable def TJ(o:Option Sg):Option (Tr×Sg):=o.map λσ=>(.val .none,σ)
def Y9(cl:Cl)(ts:ah)(σ:Sg)(f:Value):Option (Tr×Sg):=match f with
 |.ref a=>(cl a ts σ).bind vA|.type n=>(GP σ n ts).map λx=>(x,σ)
 |_=>none
noncomputable def Pw:Tr->aT|.app t=>some t|_=>none
noncomputable def Mx(q:Tr×Sg)(k:Ko):aw:=k q.1 q.2
def Px(cl:Cl)(t:Tr)(ts:ah)(σ:Sg):Option (Tr×Sg):=(Pw t).elim ((valOf t).bind (Y9 cl ts σ)) λl=>(one ts).bind λx=>TJ (mH σ l x)
def BH(n:String)(f:tH):Ev:=λρ σ k=>f ρ σ λts σ=>(z6 σ n ts).bind λx=>k x σ
def BI(cl:Cl)(f:Ev)(g:tH):Ev:=λρ σ k=>f ρ σ λt σ=>g ρ σ λts σ=>(Px cl t ts σ).bind λq=>Mx q k
def ack(n:Str)(q:Addr×List At×ah):dz:=if(q.2.1.all λa=>a.str !=n)=true then aG.jU q.1 n else none
def My(t:Tr)(n:Str):dz:=(objOf t).bind (ack n)
noncomputable def Y':Cn->dz|.buf .. =>some 0|_=>none
def TK(σ:Sg)(t:Tr):dz:=(ny σ t).bind λq=>Y' q.2
def Py(m:Me)(σ:Sg)(t:Tr):dz:=match m with|.get=>(uq σ t).map λj=>0|.own n=>My t n|_=>TK σ t
def Za(σ:Sg)(t:Tr):ah->Option (Tr×Sg)|[]=>z9 σ t|u::us=>(one (u::us)).bind λu=>(intOf u).bind (Pu σ t)
def Pz(cl:Cl)(m:Me)(σ:Sg)(t:Tr)(f:Addr)(ts:ah):Option (Tr×Sg):=match m with
 |.append=>(one ts).bind λx=>TJ (mH σ t x)|.extend=>(one ts).bind λx=>TJ (BG σ t x)|.pop=>Za σ t ts|.insert=>(two ts).bind λq=>(intOf q.1).bind λi=>TJ (TA σ t i q.2)|.get=>(YL σ t ts).map λx=>(x,σ)
 |.own _=>(cl f (t::ts) σ).bind vA
def G4(cl:Cl)(m:Me)(f:Ev)(g:tH):Ev:=λρ σ k=>f ρ σ λt σ=>(Py m σ t).bind λa=>g ρ σ λts σ=>(Pz cl m σ t a ts).bind λq=>Mx q k
def G5(f:Ev):Ev:=λρ σ k=>f ρ σ λt σ=>(TK σ t).bind λj=>k (.app t) σ
section
variable{sp:Spec}{cl:Cl}{w w':Wd}{t u:Tr}{v z:Value}{o:Out}{P:Pl}{l r m:E}{f:Ev}{fs:tH}{ts:ah}{vs:ai}{x:Tr×Sg}{Q:dm}{X:bA}{k:Ko}
def Mz(o:Out):aX (vA o) λq=>o=.ret q.1 q.2:=by cases o<;>first|exact trivial|exact rfl
def BJ(e:vA o=some x):o=.ret x.1 x.2:=az (C:=λq=>o=.ret q.1 q.2) (Mz o) e
def Pl.K.kr(K:P.K k Q)(L:P.w.Le w')(e:Mx x k=some P.o):Kr w' x.1 x.2 Q:=λw2 y L2 s r=>K w2 x.1 y (L.trans L2) r (s▸e)
def Kr.kx{x:Tr}(k:Kr w x w.σ Q):Kx w x Q:=k
def vB{s:Option Sg}{C:Prop}(e:TJ s=some x)(k:Kr w x.1 x.2 Q)(h:∀σ,s=some σ->TB w σ (Q .none)->C):C:=by
 obtain⟨σ,e2,rfl⟩:=dA e;exact h σ e2 λw' L s=>k w' .none L s ⟨rfl,rfl⟩
def MA{n:String}(hf:Ts sp m fs):Te sp (.call (.glob (.builtin n)) m) (BH n fs):=λP k Q X e K=>hf P _ _ X e λw' ts vs L r e=>af e λx e1 e=>Dx r e1 (K.kx L e)
def TL(r:w.R t v):aX (Pw t) λl=>bp v λa=>¬w.f.In a/\Got (Dt (w.h a)) λb=>w.R l (.ref b):=by
 cases t with
 |app l=>exact r|_=>exact trivial
def MB(o:cj):aX (Dt o) λl=>o=some (.app l):=by
 cases o with
 |none=>exact trivial|some m=>cases m<;>first|exact trivial|exact rfl
def MC{o:cj}{l:Addr}(e:Dt o=some l):o=some (.app l):=az (C:=λl=>o=some (.app l)) (MB o) e
def G6(C:iK sp cl)(rt:w.R t v)(r:w.L ts vs)(e:Px cl t ts w.σ=some x)(k:Kr w x.1 x.2 Q):pf sp aG v vs w.h Q X:=
 mW e (λl e1 e=>kR (C:=λv=>pf sp aG v vs w.h Q X) (az (C:=λl=>bp v λa=>¬w.f.In a/\Got (Dt (w.h a)) λb=>w.R l (.ref b)) (TL rt) e1) λa q=>by
  cases q.2 with
  |mk b m q2=>exact .app b (MC m) (af e λy e2 e=>vB e k λσ e3 K=>jn (kU r e2) λy' ry=>ux q2 ry e3 K)) λe=>af e λv' e1 e=>by
 cases nV rt e1
 cases v with
 |ref a=>exact af e λo e1 e=>C.call (BJ e▸e1) r k|type n=>
  obtain⟨y,e2,rfl⟩:=dA e;exact GV r e2 k
 |_=>exact eA e
def TM(C:iK sp cl)(hf:Te sp l f)(hg:Ts sp m fs):Te sp (.call l m) (BI cl f fs):=λP k Q X e K=>hf P _ _ X e λw1 t v L r e=>hg (P.at w1 L) _ _ X e λw2 ts vs L2 rs e=>af e λq e1 e=>G6 C (L2.R r) rs e1 (K.kr (L.trans L2) e)
inductive vC(w:Wd)(m:Me)(f:Addr):hJ
 |mk (a):(∀K,K f->yC aG (.ref a) m w.h K)->vC w m f (.ref a)
def MD{c:Cn}{f:Fs}{h:Hp}{o:cj}(r:iP f h c o){b:Addr}(e:Y' c=some b):Got (fJ o) λj=>b=0:=by
 cases c with
 |buf=>obtain rfl:=ar e;exact r.imp (λj=>id) λj j=>rfl|_=>exact eA e
def xB{a:Addr}(r:w.R t v)(e:TK w.σ t=some a):bp v λb=>Got (fJ (w.h b)) λj=>a=0:=
 af e λq e1 e=>by
  cases jH r e1 with
  |mk b ea rc=>exact MD rc e
def ME{n:Str}{a:Addr}(r:w.R t v)(e:My t n=some a):bp v (AY aG n w.h (a=·)):=
 af e λq e1 e=>bu (az (C:=λq=>bp v (V6 w.f w.h q.1 q.2.1 (w.L q.2.2))) (z5 r) e1) λb o=>by
  cases o with
  |mk d vs m1 n1 m2 n2 q2=>
   obtain⟨l,e⟩:=fL e;refine⟨q.1,d,_,a,m1,m2,?_,e,rfl⟩;rw[List.all_eq_true]at l⊢;exact λp hp=>l p.1 (List.of_mem_zip hp).1
def BL{m:Me}{a:Addr}(r:w.R t v)(e:Py m w.σ t=some a):vC w m a v:=by
 cases m with
 |get=>
  obtain⟨d,e2,rfl⟩:=dA e
  cases dct_is r e2 with
  |mk b vs m q=>exact⟨b,λK k=>⟨_,m,k⟩⟩
 |own n=>exact kR (C:=λv=>vC w (.own n) a v) (ME r e) λb q=>⟨b,λK k=>by
  cases q with
  |mk c d fs f h1 h2 h3 h4 h5=>exact⟨c,d,fs,f,h1,h2,h3,h4,h5▸k⟩⟩
 |_=>exact kR (C:=λv=>vC w _ a v) (xB r e) λb q=>⟨b,λK k=>by
  cases q with
  |mk xs m z=>exact⟨xs,m,z▸k⟩⟩
def xC{m:Me}{a:Addr}{f:Addr->Prop}(h:bp v f)(k:∀b,f b->gJ sp (.ref b) m a vs w.h Q X):gJ sp v m a vs w.h Q X:=kR (C:=λv=>gJ sp v m a vs w.h Q X) h k
def MF{a:Addr}(r:w.R t v)(rs:w.L ts vs)(e:Za w.σ t ts=some x)(k:Kr w x.1 x.2 Q):gJ sp v .pop a vs w.h Q X:=by
 cases ts with
 |nil=>cases vs with
  |cons=>exact rs.elim|nil=>exact xC (TC r e λw' y L s r=>k w' y L s r) λb p=>p
 |cons u us=>cases vs with
  |nil=>exact rs.elim|cons y ys=>exact af e λu' e1 e=>af e λi e2 e=>xC (Mw r e λw' y L s r=>k w' y L s r) λb p=>jn (kU rs e1) λy' ry=>kW (int_is ry e2) λj z=>z▸p
def TO{c:Addr}{n:Str}{f:Addr}(e:aG.jU c n=some f):aG.kind f=.fn:=by
 have h:(qD.all λp=>match aG.kind p.2 with|.fn=>true|_=>false)=true:=aO;obtain⟨l,r,q,_⟩:=List.lookup_eq_some_iff.mp (show qD.lookup (c,n)=some f from e);have:=bQ h ((c,n),f) (by rw[q];exact fC l (.head r));revert this;show(match aG.kind f with|.fn=>true|_=>false)=true->_
 cases aG.kind f with
 |fn=>exact λj=>rfl|_=>exact λe=>iM e
def BM{n:Str}{f:Addr}(e:My t n=some f):aG.kind f=.fn:=af e λq j e=>TO (fL e).2
@[elab_as_elim] def g1{P:hJ}{C:ai->Prop}(h:sY vs P)(k:∀y,P y->C [y]):C vs:=by
 cases vs with
 |nil=>exact h.elim|cons v vs=>cases vs with
  |nil=>exact k v h|cons=>exact h.elim
@[elab_as_elim] def g2{P:Value->hJ}{C:ai->Prop}(h:OR vs P)(k:∀y z,P y z->C [y,z]):C vs:=by
 cases vs with
 |nil=>exact h.elim|cons v vs=>exact g1 (C:=λvs=>C (v::vs)) h (k v)
def G7{m:Me}{a b:Addr}(C:iK sp cl)(r:w.R t (.ref b))(rs:w.L ts vs)(kf:∀n,m=.own n->aG.kind a=.fn)(e:Pz cl m w.σ t a ts=some x)(k:Kr w x.1 x.2 Q):gJ sp (.ref b) m a vs w.h Q X:=by
 cases m with
 |append=>exact af e λy e1 e=>vB e k λσ e2 K=>g1 (C:=λvs=>gJ sp (.ref b) .append a vs w.h Q X) (kU rs e1) λy ry=>ux r ry e2 K|extend=>exact af e λy e1 e=>vB e k λσ e2 K=>g1 (C:=λvs=>gJ sp (.ref b) .extend a vs w.h Q X) (kU rs e1) λy ry=>DB r ry e2 K|pop=>exact MF r rs e k|insert=>exact af e λy e1 e=>af e λi e3 e=>vB e k λσ e2 K=>g2 (C:=λvs=>gJ sp (.ref b) .insert a vs w.h Q X) (pO rs e1) λy z ry=>kW (int_is ry.1 e3) λj q=>q▸TH r ry.2 e2 K|get=>
  obtain⟨y,e2,rfl⟩:=dA e;exact Mj r rs e2 k
 |own n=>exact af e λo e1 e=>C.fn (o:=.ret x.1 x.2) (kf n rfl) (e1.trans (ak some (BJ e))) ⟨r,rs⟩ (λt σ e=>by injection e with e1 e2;exact e1▸e2▸k) λe=>nomatch e
def G8{n:Me}(C:iK sp cl)(hf:Te sp l f)(hg:Ts sp m fs):Te sp (.jU l n m) (G4 cl n f fs):=λP k Q X e K=>hf P _ _ X e λw1 t v L r e=>af e λa e1 e=>by
 have go:=λb (rb:w1.R t (.ref b))=>hg (P.at w1 L) _ (λvs h2=>gJ sp (.ref b) n a vs h2 Q X) X e λw2 ts vs L2 rs e=>af e λq e2 e=>G7 C (L2.R rb) rs (λn' z=>by subst z;exact BM e1) e2 (K.kr (L.trans L2) e)
 cases BL r e1 with
 |mk b R=>exact R _ (go b r)
def MG(hf:Te sp m f):Te sp (.bound m) (G5 f):=λP k Q X e K=>hf P _ _ X e λw1 t v L r e=>af e λa e1 e=>by
 refine kR (C:=λv=>w1.R t v->bp v λa=>Got (fJ (w1.h a)) λj=>dj (.app a) w1.h Q) (xB r e1) (λb q rb=>q.imp (λj=>id) λj j c ec=>?_) r;exact K (w1.new (.app b) ec) (.app t) _ (L.trans (w1.dE ec)) ⟨w1.fr ec,b,by show Dt (w1.h.set c (.app b) c)=_;rw[Hp.set_same];rfl,(w1.dE ec).R rb⟩ e
end
structure vD(w:Wd)(one:Bool)(bD:Src)(items:List ah):Prop where
 len:bD.len=items.length
 here:∀w2,w.Le w2->bD.here w2.h
 take:∀(tg:aC)(i:Nat) ts,items[i]? =some ts->ts≠[]->ts.length=tg.length->∀w' (ρ:aS)(K:aS->Prop),w.Le w'->(∀vs,w'.L ts vs->K (cz ρ tg vs))->bD.take ρ tg one w'.h i K
abbrev Js:=Bool->bU->Sg->(List ah->Sg->aw)->aw
def Pl.Ki(P:Pl)(one:Bool)(k:List ah->Sg->aw)(Q:Src->bA):Prop:=∀w' bD ts,P.w.Le w'->vD w' one bD ts->k ts w'.σ=some P.o->Q bD w'.h
def Ti(sp:Spec)(m:E)(f:Js):Prop:=∀(P:Pl) one k Q X,f one P.ρt P.w.σ k=some P.o->P.Ki one k Q->wpI sp aG P.ρ m P.w.h Q X
noncomputable def lY:Tr->Option ah|.lst ts=>some ts|.tup ts=>some ts|_=>none
def ck(one:Bool)(t:Tr):ah:=match one with
 |true=>[t]
 |false=>(lY t).getD []
def hM(f:Ev):Js:=λone ρ σ k=>f ρ σ λt σ=>(lY t).bind λts=>k (ts.map (ck one)) σ
def gk(f:Ev):Js:=λone ρ σ k=>f ρ σ λt σ=>(intOf t).bind λi=>if one=true/\i.natAbs<2^60 then k ((List.range i.toNat).map λj:Nat=>[.val (int j)]) σ else none
def BN:Nat->ah->List ah
 |_,[]=>[]
 |i,t::ts=>[.val (int i),t]::BN (i+1) ts
noncomputable def G9:Tr->Option ah|.lst ts=>some ts|_=>none
def lg(f:Ev):Js:=λone ρ σ k=>f ρ σ λt σ=>if one=false then(G9 t).elim ((strOf t).bind λs=>k (BN 0 (s.cps.toList.map λc=>.val (str ⟨#[c]⟩))) σ) (λts=>if ts.length<2^40 then k (ts.map λt=>[.gY,t]) σ else none)else none
section
variable{sp:Spec}{w w':Wd}{t u:Tr}{v z:Value}{P:Pl}{m:E}{f:Ev}
inductive BO(a:Addr)(o:cj)(vs:ai)(bD:Src):Prop|mk:bD.len=vs.length->(∀h2:Hp,h2 a=o->bD.here h2)->(∀ρ tg one h i K,Got vs[i]? (λx=>kH ρ tg one x h K)->bD.take ρ tg one h i K)->BO a o vs bD
def TP(a:Addr)(o:cj):aX (dP o) λvs=>Got (srcOf a o) (BO a o vs):=by
 cases o with
 |none=>exact trivial|some m=>cases m with
  |list xs=>exact⟨.seq a xs,rfl,rfl,λh2 e=>(ak listOf e),λj j j j j j w=>w⟩|ro xs=>exact⟨.seq a xs,rfl,rfl,λh2 e=>(ak listOf e),λj j j j j j w=>w⟩|tup xs=>exact⟨.tup a xs,rfl,rfl,λh2 e=>e,λj j j j j j w=>w⟩|_=>exact trivial
inductive iL(w:Wd)(g:cj->Option ai)(ts:ah):hJ
 |mk (a vs):¬w.f.In a->g (w.h a)=some vs->w.L ts vs->iL w g ts (.ref a)
def sk{g:cj->Option ai}{ts:ah}(r:bp v λa=>¬w.f.In a/\Got (g (w.h a)) (jv w.f w.h ts)):iL w g ts v:=kR (C:=λv=>iL w g ts v) r λa q=>by
 cases q.2 with
 |mk vs m q'=>exact⟨a,vs,q.1,m,q'⟩
def iL.to{f g:cj->Option ai}{ts:ah}(s:iL w f ts v)(k:∀o,Up (f o) (g o)):iL w g ts v:=by
 cases s with
 |mk a vs n m q=>exact⟨a,vs,n,k _ _ m,q⟩
def MH(r:w.R t v):aX (lY t) λts=>iL w dP ts v:=by
 cases t with
 |lst _=>exact(sk r).to oV|tup _=>exact(sk r).to Bp|_=>exact trivial
def vE{ts:ah}(r:w.R t v)(e:lY t=some ts):iL w dP ts v:=az (C:=λts=>iL w dP ts v) (MH r) e
def xD(r:w.R t v):aX (G9 t) λts=>iL w fJ ts v:=by
 cases t with
 |lst _=>exact sk r|_=>exact trivial
def BP{g:cj->Option ai}(g0:g none=none){a:Addr}{vs:ai}(L:w.Le w')(n:¬w.f.In a)(e:g (w.h a)=some vs):w'.h a=w.h a:=by
 cases z:w.h a with
 |none=>rw[z,g0]at e;exact eA e|some o=>exact L.keep a o z (nl n)
def Ab{tg:aC}{one:Bool}{ρ:aS}{K:aS->Prop}(r:w.R t v)(nn:ck one t≠[])(ln:(ck one t).length=tg.length)(k:∀vs,w.L (ck one t) vs->K (cz ρ tg vs)):kH ρ tg one v w.h K:=by
 cases one with
 |true=>exact k [v] ⟨r,trivial⟩|false=>
  cases z:lY t with
  |none=>exact absurd (show(lY t).getD []=[] by rw[z];rfl) nn|some us=>
   have e:ck false t=us:=show(lY t).getD []=us by rw[z];rfl
   rw[e]at ln k
   cases vE r z with
   |mk c ws n m q=>exact⟨ws,m,(bw q).trans ln,k ws q⟩
def DD{one:Bool}{ts:ah}{a:Addr}{vs:ai}{bD:Src}(n:¬w.f.In a)(m:dP (w.h a)=some vs)(r:w.L ts vs)(s:BO a (w.h a) vs bD):vD w one bD (ts.map (ck one)):=by
 cases s with
 |mk s1 s2 s3=>
  refine⟨by rw[s1,au,bw r],λw2 L=>s2 w2.h (BP rfl L n m),λtg i x e nn ln w' ρ K L k=>s3 _ _ _ _ _ _ ?_⟩;rw[cy]at e;obtain⟨t,z,rfl⟩:=dA e;exact(pM r z).imp (λj=>id) λv r=>Ab (L.R r) nn ln k
def TQ(hf:Te sp m f):Ti sp (.hM m) (hM f):=λP one k Q X e K=>hf P _ _ X e λw' t v L r e=>af e λts e1 e=>by
 cases vE r e1 with
 |mk a vs n m q=>exact(az (C:=λvs=>Got (srcOf a (w'.h a)) (BO a (w'.h a) vs)) (TP a (w'.h a)) m).imp (λj=>id) λbD s=>K w' bD _ L (DD n m q s) e
def MI{ts:ah}:∀{n i:Nat}{x:ah},(BN n ts)[i]? =some x->∃t,x=[.val (int (n+i:Nat)),t]/\ts[i]? =some t:=by
 induction ts with
 |nil=>exact λe=>eA e|cons t ts ih=>
  intro n i x e
  cases i with
  |zero=>obtain rfl:=ar e;exact⟨t,rfl,rfl⟩|succ i=>
   obtain⟨u,a,b⟩:=ih (n:=n+1) (i:=i) e;exact⟨u,by rw[a,Nat.add_right_comm];rfl,b⟩
def Ha{ts:ah}:∀{n:Nat},(BN n ts).length=ts.length:=by
 induction ts with
 |nil=>exact λ{n}=>rfl|cons t ts ih=>exact λ{n}=>ak (·+1) (ih (n:=n+1))
def Hb{i:Int}(l:i.natAbs<2^60):-(2^60)<i/\i<2^60:=by constructor<;>lia
def Hc(hf:Te sp m f):Ti sp (.gk m) (gk f):=λP one k Q X e K=>hf P _ _ X e λw' t v L r e=>af e λi e1 e=>G1 e λc e=>kW (int_is r e1) λi' q=>by
 subst q;refine⟨(Hb c.2).1,(Hb c.2).2,K w' _ _ L ⟨by rw[au,List.length_range];rfl,λJ J=>trivial,λtg j ts e nn ln w2 ρ K' L' k'=>?_⟩ e⟩;rw[cy]at e;obtain⟨y,z,rfl⟩:=dA e;obtain⟨l,z⟩:=dO z;rw[List.getElem_range]at z;subst z;exact⟨c.1,k' [int j] ⟨zT rfl,trivial⟩⟩
def MJ(hf:Te sp m f):Ti sp (.lg m) (lg f):=λP one k Q X e K=>hf P _ _ X e λw' t v L r e=>G1 e λc e=>by
 refine mW e (λus e1 e=>G1 e λlt e=>?_) λe=>af e λs e1 e=>?_
 ·cases az (C:=λts=>iL w' fJ ts v) (xD r) e1 with
  |mk a vs n m q=>
   have m':=jm _ _ m;refine⟨vs,m',K w' _ _ L ⟨by rw[au];exact bw q,λw2 L2=>?_,λtg j ts e nn ln w2 ρ K' L' k'=>?_⟩ e⟩
   ·show listOf (w2.h a)=some vs
    rw[BP rfl L2 n m];exact m'
   ·rw[cy]at e;obtain⟨t,z,rfl⟩:=dA e;have lj:=(dO z).1;exact(pM q z).imp (λJ=>id) λy r=>⟨c,ln.symm,k' _ ⟨show((j:Nat):Int).natAbs<2^40 by rw[Int.natAbs_natCast];exact Nat.lt_trans lj lt,L'.R r,trivial⟩⟩
 ·refine oP (C:=λv=>gG v (λJ=>False) (λs=>Q (.iN s) w'.h) λa=>Got (listOf (w'.h a)) λxs=>Q (.enum a xs) w'.h) (str_is r e1) λs' J q=>?_;subst q;refine K w' _ _ L ⟨by rw[Ha,au];exact cL.symm,λJ J=>trivial,λtg j ts e nn ln w2 ρ K' L' k'=>?_⟩ e;obtain⟨t,rfl,z⟩:=MI e;rw[cy]at z;obtain⟨y,z1,rfl⟩:=dA z;rw[cX]at k';exact⟨y,by rw[<-Array.getElem?_toList];exact z1,c,ln.symm,k' _ ⟨zT rfl,zT rfl,trivial⟩⟩
end
def gy(ρ:bU)(tg:aC)(ts:ah)(k:bU->aw):aw:=match ts with|[]=>none|t::us=>if us.length+1=tg.length then k (mG ρ tg (t::us))else none
def iQ(c e:Ev)(ρ:bU)(tg:aC):List ah->ah->Sg->(ah->Sg->aw)->aw|[],acc,σ,k=>k acc σ|x::xs,acc,σ,k=>gy ρ tg x λρ'=>c ρ' σ λt σ=>BD t λb=>bif b then e ρ' σ (λw σ=>iQ c e ρ tg xs (acc++[w]) σ k)else iQ c e ρ tg xs acc σ k
def Hd(it:Js)(c f:Ev)(tg:aC)(one:Bool):Ev:=λρ σ k=>it one ρ σ λts σ=>if ts.length<aq then iQ c f ρ tg ts [] σ λus σ=>k (.lst us) σ else none
def PA(it:Js)(c f:Ev)(tg:aC)(one:Bool):Ev:=λρ σ k=>it one ρ σ λts σ=>if ts.length<aq then iQ c f ρ tg ts [] σ λus σ=>oX us k σ else none
section
variable{sp:Spec}{w w1:Wd}{t u:Tr}{v z:Value}{P:Pl}{m iu cond:E}{fc fe:Ev}{fi:Js}
def BQ{ρt:bU}{tg:aC}{ts:ah}{k:bU->aw}{o:Out}{C:Prop}(e:gy ρt tg ts k=some o)(c:ts≠[]->ts.length=tg.length->k (mG ρt tg ts)=some o->C):C:=by
 cases ts with
 |nil=>exact eA e|cons t us=>exact G1 (p:=us.length+1=tg.length) e λz e=>c nofun z e
inductive PB(P:Pl)(w1:Wd)(fc fe:Ev)(tg:aC)(items:List ah)(k:ah->Sg->aw)(i:Nat)(acc:ai)(h':Hp):Prop
 |mk (ts) (w:Wd):w.h=h'->w1.Le w->w.L ts acc->ts.length<=i->i<=items.length->iQ fc fe P.ρt tg (items.drop i) ts w.σ k=some P.o->PB P w1 fc fe tg items k i acc h'
def Pl.set(P:Pl){w':Wd}(L:P.w.Le w'){tg:aC}{ts:ah}{vs:ai}(r:w'.L ts vs):Pl:=⟨w',mG P.ρt tg ts,cz P.ρ tg vs,P.o,xx (bo L P.r) r⟩
def BR{bD:Src}{tg:aC}{one:Bool}{items:List ah}{k:ah->Sg->aw}{Q:dm}(hc:Te sp cond fc)(he:Te sp iu fe)(L0:P.w.Le w1)(it:vD w1 one bD items)(lt:items.length<aq)
  (e:iQ fc fe P.ρt tg items [] w1.σ k=some P.o) (K:∀w' t,w1.Le w'->k t w'.σ=some P.o->Kn w' t Q):
  qV bD P.ρ tg one (λρ' h' P=>eB sp aG ρ' cond h' P λj=>False) (λρ' h' P=>eB sp aG ρ' iu h' P λj=>False) w1.h Q:=by
 refine⟨PB P w1 fc fe tg items k,⟨[],w1,rfl,.refl _,trivial,aH _,bO _,e⟩,?_,?_,?_⟩
 ·intro i acc h' c
  cases c with
  |mk ts w eh L r l1 l2 e=>exact⟨eh▸it.here w L,by rw[bw r];exact bP (aa l1 l2) lt⟩
 ·intro i acc h' li c
  cases c with
  |mk ts w eh L r l1 l2 e=>
   subst eh;rw[it.len]at li;rw[List.drop_eq_getElem_cons li]at e;refine BQ e λnn ln e=>it.take tg i items[i] (bN li) nn ln w P.ρ _ L λvs rv=>?_;refine hc (P.set (L0.trans L) rv) _ _ _ e λw2 t v L2 rt e=>nY rt e λb e=>iY e (λe=>?_) λe=>?_
   ·exact he ((P.set (L0.trans L) rv).at w2 L2) _ _ _ e λw3 u z L3 ru e=>⟨ts++[u],w3,rfl,(L.trans L2).trans L3,hZ ((L2.trans L3).L r) ⟨ru,trivial⟩,by rw[aE];exact Nat.succ_le_succ l1,li,e⟩
   ·exact⟨ts,w2,rfl,L.trans L2,L2.L r,hP l1,li,e⟩
 ·intro acc h' c
  cases c with
  |mk ts w eh L r l1 l2 e=>
   subst eh;rw[it.len,List.drop_length]at e;exact K w ts L e acc r
def TR{tg:aC}{one:Bool}(hi:Ti sp m fi)(hc:Te sp cond fc)(he:Te sp iu fe):Te sp (.comp iu tg one m cond) (Hd fi fc fe tg one):=λP k Q X e K=>hi P one _ _ X e λw1 bD ts L it e=>G1 e λlt e=>BR (P:=P) hc he L it lt e λw' t L2 e acc r=>(K.kx (L.trans L2) e).lst r
def TS{tg:aC}{one:Bool}(hi:Ti sp m fi)(hc:Te sp cond fc)(he:Te sp iu fe):Te sp (.comp iu tg one m cond) (PA fi fc fe tg one):=λP k Q X e K=>hi P one _ _ X e λw1 bD ts L it e=>G1 e λlt e=>BR (P:=P) hc he L it lt e λw' t L2 e=>K.cell (L.trans L2) e
end
structure EvR where
 e:Ev:=λj j j=>none
 a:Ev:=e
 s:tH:=λj j j=>none
 sa:tH:=s
 c:V7:=λj j j j=>none
 i:Js:=λj j j j=>none
noncomputable def biV:Value->Option String|.builtin n=>some n|_=>none
def He(m:E):Option String:=by
 cases m with
 |glob v=>exact biV v|_=>exact none
def gz(cl ca:Cl)(m:E):EvR:=by
 induction m with
 |lit v=>exact{e:=litE v}|loc i=>exact{e:=Tj i}|glob v=>exact{e:=Pj v}|and l r hl hr=>exact{e:=YQ hl.e hr.e}|or l r hl hr=>exact{e:=orE hl.e hr.e}|not l hl=>exact{e:=YR hl.e}|neg l hl=>exact{e:=YS hl.e}|bin op l r hl hr=>exact{e:=YT op hl.e hr.e,a:=YU op hl.e hr.e}|ite c l r hc hl hr=>exact{e:=Tn hc.e hl.e hr.e,a:=Tn hc.e hl.a hr.a}|dict ks m h=>exact{e:=Pk ks h.s,a:=Pm ks h.s}|list m h=>exact{e:=listE h.s,a:=Pn h.sa}|tup m h=>exact{e:=To h.s,a:=To h.sa}|cmp l r hl hr=>exact{e:=YV hl.e hr.c}|jz op l r hl hr=>exact{c:=YW op r.isNil hl.e hr.c}|call f m hf hm=>exact{e:=(He f).elim (BI cl hf.e hm.s) λn=>BH n hm.s,a:=(He f).elim (BI ca hf.e hm.sa) λn=>BH n hm.s}|jU o n m ho hm=>exact{e:=G4 cl n ho.e hm.s,a:=G4 cl n ho.e hm.sa}|attr o a ho=>exact{e:=Po ho.e a}|bound o ho=>exact{e:=G5 ho.e}|idx l r hl hr=>exact{e:=YX hl.e hr.e}|slice l r c hl hr hc=>exact{e:=GZ hl.e hr.e hc.e}|hM m h=>exact{i:=hM h.e}|gk m h=>exact{i:=gk h.e}|lg m h=>exact{i:=lg h.e}|comp iu tg one m c he hm hc=>exact{e:=Hd hm.i hc.e he.e tg one,a:=PA hm.i hc.e he.e tg one}|nil=>exact{s:=YY}|cons l r hl hr=>exact{s:=G0 hl.e hr.s,sa:=G0 hl.a hr.sa}|_=>exact{}
structure pQ(sp:Spec)(m:E)(r:EvR):Prop where
 e:Te sp m r.e
 a:Te sp m r.a
 s:Ts sp m r.s
 sa:Ts sp m r.sa
 c:Tc sp m r.c
 i:Ti sp m r.i
def PF{sp m}:Te sp m λj j j=>none:=λ_ _ _ _ (e:none=some _)=>eA e
def Jt{sp m}:Ts sp m λj j j=>none:=λ_ _ _ _ (e:none=some _)=>eA e
def Zb{sp m}:Tc sp m λj j j j=>none:=λ_ _ _ _ _ _ (e:none=some _)=>eA e
def Zc{sp m}:Ti sp m λj j j j=>none:=λ_ _ _ _ _ (e:none=some _)=>eA e
def pQ.no{sp m}:pQ sp m {}:=⟨PF,PF,Jt,Jt,Zb,Zc⟩
def pQ.PG{sp m f g}(h:Te sp m f)(h':Te sp m g):pQ sp m {e:=f,a:=g}:=⟨h,h',Jt,Jt,Zb,Zc⟩
def pQ.Ea{sp m f}(h:Te sp m f):pQ sp m {e:=f}:=⟨h,h,Jt,Jt,Zb,Zc⟩
def pQ.Zd{sp m f g}(h:Ts sp m f)(h':Ts sp m g):pQ sp m {s:=f,sa:=g}:=⟨PF,PF,h,h',Zb,Zc⟩
def pQ.ofC{sp m f}(h:Tc sp m f):pQ sp m {c:=f}:=⟨PF,PF,Jt,Jt,h,Zc⟩
def pQ.ofI{sp m f}(h:Ti sp m f):pQ sp m {i:=f}:=⟨PF,PF,Jt,Jt,Zb,h⟩
section
variable{sp:Spec}{cl ca:Cl}
def TU(v:Value):aX (biV v) λn=>v=.builtin n:=by cases v<;>first|exact trivial|exact rfl
def MK(m:E):aX (He m) λn=>m=.glob (.builtin n):=by
 cases m with
 |glob v=>exact nW (TU v) λn e=>ak E.glob e|_=>exact trivial
def BS{f m:E}{g:Ev}{fs TV:tH}(C:iK sp cl)(hf:Te sp f g)(hm:Ts sp m fs)(hm':Ts sp m TV):Te sp (.call f m) ((He f).elim (BI cl g fs) λn=>BH n TV):=by
 cases z:He f with
 |none=>exact TM C hf hm|some n=>cases az (C:=λn=>f=.glob (.builtin n)) (MK f) z;exact MA hm'
def dv(C:iK sp cl)(D:iK sp ca)(m:E):pQ sp m (gz cl ca m):=by
 induction m with
 |lit v=>exact .Ea (YZ)|loc i=>exact .Ea (Y0)|glob v=>exact .Ea (Tp)|and l r hl hr=>exact .Ea (Y1 hl.e hr.e)|or l r hl hr=>exact .Ea (acd hl.e hr.e)|not l hl=>exact .Ea (Y2 hl.e)|neg l hl=>exact .Ea (Y3 hl.e)|bin op l r hl hr=>exact .PG (Y4 hl.e hr.e) (Y5 hl.e hr.e)|ite c l r hc hl hr=>exact .PG (Pp hc.e hl.e hr.e) (Pp hc.e hl.a hr.a)|dict ks m h=>exact .PG (Tv h.s) (Tw h.s)|list m h=>exact .PG (Tq h.s) (Tu h.sa)|tup m h=>exact .PG (Pq h.s) (Pq h.sa)|cmp l r hl hr=>exact .Ea (Y6 hl.e hr.c)|jz op l r hl hr=>exact .ofC (Y7 hl.e hr.c)|call f m hf hm=>exact .PG (BS C hf.e hm.s hm.s) (BS D hf.e hm.sa hm.s)|jU o n m ho hm=>exact .PG (G8 C ho.e hm.s) (G8 C ho.e hm.sa)|attr o a ho=>exact .Ea (Tz ho.e)|bound o ho=>exact .Ea (MG ho.e)|idx l r hl hr=>exact .Ea (Y8 hl.e hr.e)|slice l r c hl hr hc=>exact .Ea (Ms hl.e hr.e hc.e)|hM m h=>exact .ofI (TQ h.e)|gk m h=>exact .ofI (Hc h.e)|lg m h=>exact .ofI (MJ h.e)|comp iu tg one m c he hm hc=>exact .PG (TR hm.i hc.e he.e) (TS hm.i hc.e he.e)|nil=>exact .Zd (G2) (G2)|cons l r hl hr=>exact .Zd (BE hl.e hr.s) (BE hl.a hr.sa)|_=>exact .no
end
abbrev gZ:=bU->Sg->aw
abbrev Sv:=bU->Sg->gZ->aw
def Kq(w:Wd)(o:Out)(Q:dm)(X:bA):Prop:=(∀t σ,o=.ret t σ->Kr w t σ Q)/\(o=.bad->∀w',w.Le w'->X w'.h)
def Pl.En(P:Pl)(Q:lM)(X:bA):Prop:=Kq P.w P.o (λv h=>Q (.ret v) h) X
def Pl.Kn(P:Pl)(k:gZ)(Q:lM):Prop:=∀w' (tI:bU)(ρ':aS),P.w.Le w'->gR w' tI ρ'->k tI w'.σ=some P.o->Q (.next ρ') w'.h
def Ty(sp:Spec)(m:S)(f:Sv):Prop:=∀(P:Pl) k Q X,f P.ρt P.w.σ k=some P.o->P.En Q X->P.Kn k Q->wpS sp aG m P.ρ P.w.h Q X
def DE(sp:Spec)(m:S)(f:Sv):Prop:=∀(P:Pl) k Q X,f P.ρt P.w.σ k=some P.o->P.En Q X->P.Kn k Q->bH sp aG m P.ρ P.w.h Q X
noncomputable def Ze:Sv:=λρ σ k=>k ρ σ
noncomputable def PH(f g:Sv):Sv:=λρ σ k=>f ρ σ λρ' σ=>g ρ' σ k
noncomputable def uy(f:Ev):Sv:=λρ σ k=>f ρ σ λj σ=>k ρ σ
noncomputable def retS(f:Ev):Sv:=λρ σ j=>f ρ σ λt σ=>some (.ret t σ)
def D7(c:Ev)(f g:Sv):Sv:=λρ σ k=>c ρ σ λt σ=>BD t λb=>bif b then f ρ σ k else g ρ σ k
def Zf(f:Ev):Sv:=λρ σ j=>f ρ σ λt σ=>(qc t).bind λj=>some .bad
noncomputable def ML(o:Out)(k:Sg->aw):aw:=match o with|.ret _ σ=>k σ|.bad=>some .bad|.mark=>none
def Hf(cl:Cl)(a:Addr)(g:tH):Sv:=λρ σ k=>g ρ σ λts σ=>if(du a).isSome=true then(cl a ts σ).bind λo=>ML o (k ρ)else none
def TX(cl:Cl)(n:Str)(f:Ev)(g:tH):Sv:=λρ σ k=>f ρ σ λt σ=>(My t n).bind λa=>g ρ σ λts σ=>(cl a (t::ts) σ).bind λo=>ML o (k ρ)
structure TvR where
 o:Tr->Sv:=λj j j j=>none
 s:ah->Sv:=λj j j j=>none
noncomputable def Hg(i:Nat)(v:Tr):Sv:=λρ σ k=>k (ρ.set i (some v)) σ
def BU(f g:Ev)(v:Tr):Sv:=λρ σ k=>f ρ σ λt σ=>g ρ σ λu σ=>(sh σ t u v).bind λσ=>k ρ σ
noncomputable def Hh:ah->Sv|[]=>λρ σ k=>k ρ σ|_::_=>λj j j=>none
noncomputable def Ac(f:Tr->Sv)(g:ah->Sv):ah->Sv|[]=>λj j j=>none|v::vs=>λρ σ k=>f v ρ σ λρ' σ=>g vs ρ' σ k
def Zg(b:Bool)(n:Nat)(r:TvR)(f:Ev):Sv:=λρ σ k=>f ρ σ λv σ=>bif b then(zU σ v).bind λvs=>if vs.length=n then r.s vs ρ σ k else none else r.o v ρ σ k
def iZ(f:Sv)(tg:aC):List ah->Sv|[]=>λρ σ k=>k ρ σ|x::xs=>λρ σ k=>gy ρ tg x λρ'=>f ρ' σ λρ2 σ=>iZ f tg xs ρ2 σ k
def iH(it:Js)(f:Sv)(tg:aC)(one:Bool):Sv:=λρ σ k=>it one ρ σ λts σ=>iZ f tg ts ρ σ k
def V8(c:Ev)(f:Sv):Nat->Sv|0=>λj j j=>none|n+1=>λρ σ k=>c ρ σ λt σ=>BD t λb=>bif b then f ρ σ λρ' σ=>V8 c f n ρ' σ k else k ρ σ
noncomputable def Zh:aw->aw
 |none=>none|some o=>match o with
  |.bad=>some (.ret (.val .none) [])|o=>some o
def TY(f:Sv):Sv:=λρ σ j=>match σ with|[]=>Zh (f ρ [] λj j=>none)|_::_=>none
section
variable{sp:Spec}{cl:Cl}{w w':Wd}{t:Tr}{v:Value}{P:Pl}{m l r:E}{a b:S}{e fe ge:Ev}{f g:Sv}{fs:tH}{Q:lM}{X:bA}{k:gZ}{o:Out}
noncomputable def Pl.to(P:Pl)(w':Wd)(tI:bU)(ρ':aS)(r:gR w' tI ρ'):Pl:=⟨w',tI,ρ',P.o,r⟩
def Kr.on{Q:dm}{σ:Sg}(k:Kr w t σ Q)(L:w.Le w'):Kr w' t σ Q:=λw2 v L2=>k w2 v (L.trans L2)
def Kq.on{Q:dm}(k:Kq w o Q X)(L:w.Le w'):Kq w' o Q X:=⟨λt σ e=>(k.1 t σ e).on L,λe w2 L2=>k.2 e w2 (L.trans L2)⟩
def Pl.Kn.on{tI:bU}{ρ':aS}(K:P.Kn k Q)(L:P.w.Le w')(r:gR w' tI ρ'):(P.to w' tI ρ' r).Kn k Q:=λw2 Hi ρ2 L2=>K w2 Hi ρ2 (L.trans L2)
def Pl.Kn.here(K:P.Kn k Q)(L:P.w.Le w')(e:k P.ρt w'.σ=some P.o):Q (.next P.ρ) w'.h:=K w' P.ρt P.ρ L (bo L P.r) e
def Zi:DE sp .nil Ze:=λP k Q X e E K=>K.here (.refl _) e
def TZ(hf:Ty sp a f)(hg:DE sp b g):DE sp (.cons a b) (PH f g):=λP k Q X e E K=>hf P _ _ X e E λw' tI ρ' L r e=>hg (P.to w' tI ρ' r) k Q X e (E.on L) (K.on L r)
def Ad(he:Te sp m e):Ty sp (.expr m) (uy e):=λP k Q X q E K=>he P _ _ X q λw' t v L r q=>K.here L q
def y_ret(he:Te sp m e):Ty sp (.ret m) (retS e):=λP k Q X q E K=>he P _ _ X q λw' t v L r q=>E.1 t w'.σ (ar q).symm w' v L rfl r
def acm(he:Te sp m e)(hf:DE sp a f)(hg:DE sp b g):Ty sp (.D7 m a b) (D7 e f g):=λP k Q X q E K=>he P _ _ X q λw' t v L r q=>nY r q λb q=>iY q (λq=>hf (P.to w' P.ρt P.ρ (bo L P.r)) k Q X q (E.on L) (K.on L _)) λq=>hg (P.to w' P.ρt P.ρ (bo L P.r)) k Q X q (E.on L) (K.on L _)
def Zj(he:Te sp m e):Ty sp (.f9 m) (Zf e):=λP k Q X q E K=>he P _ _ _ q λw' t v L r q=>af q λn e1 q=>oP (C:=λv=>onStr v λj=>X w'.h) (zY r e1) λj j j=>E.2 (ar q).symm w' L
def Hj{Y:bA}(E:Kq w P.o (λv h=>Q (.ret v) h) X)(L:P.w.Le w)(K:P.Kn k Q)(q:ML o (k P.ρt)=some P.o):Kq w o (λv h=>Q (.next P.ρ) h) X:=by
 cases o with
 |ret t σ=>exact⟨λt' σ' e w' v L2 s r=>by cases e;exact K.here (L.trans L2) (s▸q),nofun⟩|bad=>exact⟨nofun,λj=>E.2 (ar q).symm⟩|mark=>exact eA q
def vF{a:Addr}(e:(du a).isSome=true):aG.kind a=.fn:=by
 have h:(rD.all λp=>match aG.kind p.1 with|.fn=>true|_=>false)=true:=aO
 cases z:du a with
 |none=>rw[z]at e;exact iM e|some F=>
  obtain⟨l,r,q,_⟩:=List.lookup_eq_some_iff.mp (show rD.lookup a=some F from z);have:=bQ h (a,F) (by rw[q];exact fC l (.head r));revert this;show(match aG.kind a with|.fn=>true|_=>false)=true->_
  cases aG.kind a with
  |fn=>exact λj=>rfl|_=>exact λe=>iM e
def y_call{a:Addr}(C:iK sp cl)(hg:Ts sp m fs):Ty sp (.expr (.call (.glob (.ref a)) m)) (Hf cl a fs):=λP k Q X e E K=>hg P _ _ X e λw1 ts vs L rs e=>G1 e λkf e=>af e λo e1 e=>
 have z:=Hj (Y:=X) (E.on L) L K e
 .fn (vF kf) (C.fn (vF kf) e1 rs z.1 z.2)
def Zk{n:Str}(C:iK sp cl)(hf:Te sp l fe)(hg:Ts sp m fs):Ty sp (.expr (.jU l (.own n) m)) (TX cl n fe fs):=λP k Q X e E K=>hf P _ _ X e λw1 t v L r e=>af e λa e1 e=>by
 have go:=λb (rb:w1.R t (.ref b))=>hg (P.at w1 L) _ (λvs h2=>gJ sp (.ref b) (.own n) a vs h2 (λj h'=>Q (.next P.ρ) h') X) X e λw2 ts vs L2 rs e=>af e λo e2 e=>
  have z:=Hj (Y:=X) (E.on (L.trans L2)) (L.trans L2) K e
  C.fn (BM e1) e2 (ts:=t::ts) (vs:=.ref b::vs) ⟨L2.R rb,rs⟩ z.1 z.2
 cases BL (m:=.own n) r e1 with
 |mk b R=>exact R _ (go b r)
def Tt(sp:Spec)(m:T)(f:Tr->Sv):Prop:=∀(P:Pl) t v k K,f t P.ρt P.w.σ k=some P.o->P.w.R t v->P.Kn k (λfl h=>eZ fl (λρ=>K ρ h) λj=>False)->Qv sp aG m v P.ρ P.w.h K
def V9(sp:Spec)(m:T)(f:ah->Sv):Prop:=∀(P:Pl) ts vs k K,f ts P.ρt P.w.σ k=some P.o->P.w.L ts vs->P.Kn k (λfl h=>eZ fl (λρ=>K ρ h) λj=>False)->sZ sp aG m vs P.ρ P.w.h K
def T1{i:Nat}:Tt sp (.name i) (Hg i):=λP t v k K e r h=>h P.w _ _ (.refl _) (qJ P.r i r) e
def PJ(hf:Te sp l fe)(hg:Te sp r ge):Tt sp (.idx l r) (BU fe ge):=λP t v k K e rv h=>hf P _ _ _ e λw1 t1 v1 L r1 e=>hg (P.at w1 L) _ _ _ e λw2 t2 v2 L2 r2 e=>af e λσ e1 e=>TG (L2.R r1) r2 ((L.trans L2).R rv) e1 λw3 L3 s=>h.here ((L.trans L2).trans L3) (s▸e)
def Zl:V9 sp .nil Hh:=λP ts vs k K e r h=>by
 cases ts with
 |nil=>cases vs with
  |nil=>exact h.here (.refl _) e|cons=>exact r.elim
 |cons=>exact eA e
def T2{a b:T}{f:Tr->Sv}{g:ah->Sv}(hf:Tt sp a f)(hg:V9 sp b g):V9 sp (.tup a b) (Ac f g):=λP ts vs k K e r h=>by
 cases ts with
 |nil=>exact eA e|cons t ts=>cases vs with
  |nil=>exact r.elim|cons v vs=>exact hf P t v _ _ e r.1 λw1 ρt ρ L r1 e=>hg (P.to w1 ρt ρ r1) ts vs k K e (L.L r.2) (h.on L r1)
def Zm{a:T}{r:TvR}(he:Te sp m e)(ho:Tt sp a r.o)(hs:V9 sp a r.s):Ty sp (.assign a m) (Zg a.isTup a.len r e):=λP k Q X q E K=>he P _ _ X q λw' t v L rt q=>by
 have K':=(K.on L (bo L P.r))
 refine iY q (λq=>af q λvs e1 q=>G1 q λln q=>?_) λq=>ho (P.at w' L) t v k _ q rt λw2 ρt ρ L2 r2 q=>K w2 ρt ρ (L.trans L2) r2 q
 cases r9 rt e1 with
 |mk b ws m rs=>exact⟨ws,m,(bw rs).trans ln,hs (P.at w' L) vs ws k _ q rs λw2 ρt ρ L2 r2 q=>K w2 ρt ρ (L.trans L2) r2 q⟩
inductive PK(P:Pl)(w1:Wd)(f:Sv)(tg:aC)(items:List ah)(k:gZ)(i:Nat)(ρ':aS)(h':Hp):Prop
 |mk (w:Wd) (ρt):w.h=h'->w1.Le w->gR w ρt ρ'->i<=items.length->iZ f tg (items.drop i) ρt w.σ k=some P.o->PK P w1 f tg items k i ρ' h'
def T3{bD:Src}{tg:aC}{one:Bool}{items:List ah}{w1:Wd}(hb:DE sp b f)(L0:P.w.Le w1)(it:vD w1 one bD items)(e:iZ f tg items P.ρt w1.σ k=some P.o)(E:P.En Q X)(K:P.Kn k Q):
  qW bD P.ρ tg one (λρ' h' P=>bH sp aG b ρ' h' P X) w1.h Q:=by
 refine⟨PK P w1 f tg items k,⟨w1,P.ρt,rfl,.refl _,bo L0 P.r,bO _,e⟩,λi ρ' h' c=>?_,λi ρ' h' li c=>?_,λρ' h' c=>?_⟩
 ·cases c with|mk w ρt eh L r l e=>exact eh▸it.here w L
 ·cases c with
  |mk w ρt eh L r l e=>
   subst eh;rw[it.len]at li;rw[List.drop_eq_getElem_cons li]at e;exact BQ (k:=λρ'=>f ρ' w.σ λρ2 σ=>iZ f tg (items.drop (i+1)) ρ2 σ k) e λnn ln e=>it.take tg i items[i] (bN li) nn ln w ρ' _ L λvs rv=>hb (P.to w (mG ρt tg items[i]) (cz ρ' tg vs) (xx r rv)) _ _ X e (E.on (L0.trans L)) λw2 Hi ρ2 L2 r2 e=>⟨w2,Hi,rfl,L.trans L2,r2,li,e⟩
 ·cases c with
  |mk w ρt eh L r l e=>
   subst eh;rw[it.len,List.drop_length]at e;exact K w ρt ρ' (L0.trans L) r e
def Zn{tg:aC}{one:Bool}{fi:Js}(hi:Ti sp m fi)(hb:DE sp b f):Ty sp (.iH tg one m b) (iH fi f tg one):=λP k Q X e E K=>hi P one _ _ X e λw1 bD ts L it e=>T3 hb L it e E K
inductive PL(P:Pl)(c:Ev)(f:Sv)(k:gZ)(n:Nat)(ρ':aS)(h':Hp):Prop
 |mk (w:Wd) (ρt):w.h=h'->P.w.Le w->gR w ρt ρ'->V8 c f n ρt w.σ k=some P.o->PL P c f k n ρ' h'
def MM{n:Nat}(hc:Te sp m e)(hb:DE sp b f):Ty sp (.iG m b) (V8 e f n):=λP k Q X q E K=>by
 refine⟨PL P e f k,n,⟨P.w,P.ρt,rfl,.refl _,P.r,q⟩,λn ρ' h' c=>?_⟩
 cases c with
 |mk w ρt eh L r q=>
  subst eh
  cases n with
  |zero=>exact eA q|succ n=>exact hc (P.to w ρt ρ' r) _ _ X q λw1 t v L1 rt q=>nY rt q λb q=>iY q (λq=>hb (P.to w1 ρt ρ' (bo L1 r)) _ _ X q (E.on (L.trans L1)) λw2 Hi ρ2 L2 r2 q=>⟨n,Nat.lt_succ_self n,w2,Hi,rfl,(L.trans L1).trans L2,r2,q⟩) λq=>K w1 ρt ρ' (L.trans L1) (bo L1 r) q
end
mutual
noncomputable def sub(g:Nat->Tr):Tr->Tr|.val v=>.val v|.txt k=>.txt k|.gY=>.gY|.any=>.any|.cell k=>g k|.app t=>.app (sub g t)|.tup ts=>.tup (eE g ts)|.lst ts=>.lst (eE g ts)|.mV ks ts=>.mV ks (eE g ts)|.obj c ns ts=>.obj c ns (eE g ts)
noncomputable def eE(g:Nat->Tr):ah->ah
 |[]=>[]
 |t::ts=>sub g t::eE g ts
end
def cnT(g:Nat->Tr):Cn->Tr|.buf none ts _=>.lst (eE g ts)|.mV ks ts=>.mV ks (eE g ts)|_=>.any
def wj(n:Nat)(σ:Sg):Nat->Nat->Tr
 |0=>λk=>if k<n then .cell k else .any
 |d+1=>λk=>if k<n then .cell k else(σ[k]?).elim .any (cnT (wj n σ d))
def T4(g:Nat->Tr):Cn->Cn|.buf p ts l=>.buf p (eE g ts) l|.mV ks ts=>.mV ks (eE g ts)|.bx s ds l=>.bx s ds l
def fz(n:Nat)(σ:Sg)(t:Tr):Tr:=sub (wj n σ 3) t
def MN(n:Nat)(σ:Sg):Sg:=(σ.take n).map (T4 (wj n σ 3))
def yo(n:Nat):Out->Out|.ret t σ=>.ret (fz n σ t) (MN n σ)|.bad=>.bad|.mark=>.mark
section
variable{f f':Fs}{h:Hp}{g:Nat->Tr}
def Got.off{α:Type}{o:Option α}{a:Addr}{P Q:α->Prop}(q:¬f.In a/\Got o P)(hf:∀a,f'.In a->f.In a)(k:∀x,P x->Q x):¬f'.In a/\Got o Q:=⟨λm=>q.1 (hf a m),q.2.imp (λj=>id) k⟩
mutual
theorem Ae(hg:∀k v,Rp f h (.cell k) v->Rp f' h (g k) v)(hf:∀a,f'.In a->f.In a):∀(t:Tr){v:Value},Rp f h t v->Rp f' h (sub g t) v
 |.val _,_,r=>r|.txt _,_,r=>r|.gY,_,r=>r|.any,_,r=>r|.cell k,v,r=>hg k v r|.app t,_,r=>bu r λa q=>Got.off q hf λj=>Ae hg hf t|.tup ts,_,r=>bu r λa q=>Got.off q hf λj=>ig hg hf ts|.lst ts,_,r=>bu r λa q=>Got.off q hf λj=>ig hg hf ts|.mV ks ts,_,r=>bu r λa q=>Got.off q hf λj d=>d.imp λj=>ig hg hf ts|.obj c ns ts,_,r=>bu r λa q=>by
  cases q with
  |mk d vs e1 e2 e3 e4 w=>exact⟨d,vs,e1,λm=>e2 (hf _ m),e3,λm=>e4 (hf _ m),ig hg hf ts w⟩
theorem ig(hg:∀k v,Rp f h (.cell k) v->Rp f' h (g k) v)(hf:∀a,f'.In a->f.In a):∀(ts:ah){vs:ai},jv f h ts vs->jv f' h (eE g ts) vs|[],_,r=>r|t::ts,_,r=>gx r λj j q=>⟨Ae hg hf t q.1,ig hg hf ts q.2⟩
end
end
section
variable{w:Wd}{n:Nat}
noncomputable def Fs.cut(f:Fs)(n:Nat):Fs:=⟨f.l.take n,f.z⟩
def ky(a:Addr)(m:(w.f.cut n).In a):w.f.In a:=Or.imp_left List.mem_of_mem_take m
def qK{k:Nat}(l:k<n):(w.f.l.take n)[k]? =w.f.l[k]? :=List.getElem?_take_of_lt l
def xE{k:Nat}{a:Addr}(l:¬k<n)(e:w.f.l[k]? =some a):¬(w.f.cut n).In a:=λm=>m.elim (λm=>by
 obtain⟨i,li,q⟩:=List.getElem_of_mem m;have q:=(List.getElem_take (h:=li):(w.f.l.take n)[i]=_).symm.trans q;have li2:=dI li (List.length_take_le ..);have li:i<(w.f.l.take n).length:=li;rw[List.length_take]at li;have:k=i:=(List.getElem?_inj (dO e).1 w.ok.nd).mp (e.trans (by rw[<-q];exact(bN (dI li (Nat.min_le_right ..))).symm));exact l (this▸dI li (Nat.min_le_left ..))) λm=>w.ok.zn a m (kS e)
def T5{g:Nat->Tr}{c:Cn}{a:Addr}(hg:∀k v,w.R (.cell k) v->Rp (w.f.cut n) w.h (g k) v)(na:¬(w.f.cut n).In a)(r:iP w.f w.h c (w.h a)):Rp (w.f.cut n) w.h (cnT g c) (.ref a):=by
 cases c with
 |buf p ts l=>cases p with
  |none=>exact⟨na,Got.imp r (λj=>id) λvs b=>by
   cases b with
   |mk us e r _=>subst e;exact ig hg ky ts r⟩
  |some=>exact rfl
 |mV ks ts=>exact⟨na,Got.imp r (λx=>xn _ x) λes d=>d.imp λvs=>ig hg ky ts⟩|bx=>exact rfl
def Af:∀(d k:Nat)(v:Value),w.R (.cell k) v->Rp (w.f.cut n) w.h (wj n w.σ d k) v:=by
 intro d
 induction d with
 |zero=>
  intro k v r
  show Rp _ _ (if k<n then .cell k else .any) v
  by_cases l:k<n
  ·rw[av l];exact bu r λa e=>(qK l).trans e
  ·rw[aB l];exact km r
 |succ d ih=>
  intro k v r
  show Rp _ _ (if k<n then .cell k else(w.σ[k]?).elim .any (cnT (wj n w.σ d))) v
  by_cases l:k<n
  ·rw[av l];exact bu r λa e=>(qK l).trans e
  ·rw[aB l]
   cases e:w.σ[k]? with
   |none=>exact km r|some c=>exact jl (C:=λv=>Rp (w.f.cut n) w.h (cnT (wj n w.σ d) c) v) r e λa ea rc=>T5 ih (xE l ea) rc
def Hk{t:Tr}{v:Value}(r:w.R t v):Rp (w.f.cut n) w.h (fz n w.σ t) v:=Ae (Af 3) ky t r
def T6{c:Cn}{o:cj}(r:iP w.f w.h c o):iP (w.f.cut n) w.h (T4 (wj n w.σ 3) c) o:=by
 cases c with
 |buf p ts l=>exact Got.imp r (λj=>id) λvs b=>b.imp λus=>ig (Af 3) ky ts|mV ks ts=>exact Got.imp r (λj=>id) λes d=>d.imp λvs=>ig (Af 3) ky ts|bx=>exact r
def Wd.fz(w:Wd)(n:Nat):Wd:=⟨w.h,w.f.cut n,MN n w.σ,by
 refine⟨λa o e=>⟨(w.ok.k a o e).1,λm=>(w.ok.k a o e).2 (ky a m)⟩,w.ok.nd.sublist (List.take_sublist ..),by rw[MN,au,List.length_take,Fs.cut,List.length_take,w.ok.ln],w.ok.zs,λa m q=>w.ok.zn a m (List.mem_of_mem_take q),λi c q=>?_⟩;rw[MN,cy]at q;obtain⟨c',q2,rfl⟩:=dA q;have l:i<n:=by
  have:=(dO q2).1;rw[List.length_take]at this;exact dI this (Nat.min_le_left ..)
 rw[List.getElem?_take_of_lt l]at q2
 cases w.ok.c i c' q2 with
 |mk a e r=>exact⟨a,(qK l).trans e,T6 r⟩⟩
def Wd.xF{w0:Wd}(L:w0.Le w)(l:w0.σ.length<=n):w0.Le (w.fz n):=⟨L.keep,L.live,λi a e=>(qK (dI (w0.ok.ln▸(dO e).1) l)).trans (L.pre i a e),λa m=>L.new a (List.mem_of_mem_take m),L.zz⟩
def Zo{sp:Spec}{b:S}{f:Sv}(hb:DE sp b f):Ty sp (.nJ b) (TY f):=λP k Q X e E K=>by
 have go:∀(o:Out) X,P.w.σ=[]->f P.ρt [] (λj j=>none)=some o->Kq P.w o (λv h=>Q (.ret v) h) X->bH sp aG b P.ρ P.w.h Q X:=λo X z q E=>hb ⟨P.w,P.ρt,P.ρ,o,P.r⟩ (λj j=>none) Q X (z.symm▸q) E λ_ _ _ _ _ (e:none=some _)=>eA e
 show bH sp aG b P.ρ P.w.h Q λh'=>Q (.ret .none) h'
 revert e go;unfold TY
 cases z:P.w.σ with
 |cons=>exact λe=>eA e|nil=>
  show Zh (f P.ρt [] λj j=>none)=some P.o->_
  cases f P.ρt [] (λj j=>none)with
  |none=>exact λe=>eA e|some o=>
   intro e go;have bad:∀w',P.w.Le w'->o=.bad->Q (.ret .none) w'.h:=λw' L y=>by
    subst y;exact E.1 (.val .none) [] (ar e).symm (w'.fz 0) .none (Wd.xF L (by rw[z];exact aH _)) rfl ⟨rfl,rfl⟩
   refine go o _ rfl rfl ⟨λt σ y=>?_,λy w' L=>bad w' L y⟩;subst y;exact E.1 t σ (ar e).symm
end
structure Zp where
 o:Sv:=λj j j=>none
 s:Sv:=λj j j=>none
noncomputable def Zq:Value->dz|.ref a=>some a|_=>none
def fnOf(f:E):dz:=by
 cases f with
 |glob v=>exact Zq v|_=>exact none
noncomputable def ownOf(n:Me):Option Str:=by
 cases n with
 |own n=>exact some n|_=>exact none
def PM(cl ca:Cl)(r:EvR)(a:Ev)(m:E):Sv:=by
 cases m with
 |call f m=>exact(fnOf f).elim (uy a) λb=>Hf cl b (gz cl ca m).s|jU o n m=>exact(ownOf n).elim (uy a) λn=>TX cl n (gz cl ca o).e (gz cl ca m).s|_=>exact uy a
def evT(cl ca:Cl)(m:T):TvR:=by
 induction m with
 |name i=>exact{o:=Hg i}|idx l r=>exact{o:=BU (gz cl ca l).e (gz cl ca r).e}|tup t ts h hs=>exact{s:=Ac h.o hs.s}|nil=>exact{s:=Hh}|_=>exact{}
noncomputable def BV(md:Bool)(r:EvR):Ev:=match md with|true=>r.a|false=>r.e
@[irreducible] def nz:Nat:=aq
def xG:nz=aq:=by unfold nz;rfl
def MP(cl ca:Cl)(md:Bool)(m:S):Zp:=by
 induction m with
 |expr e=>exact{o:=PM cl ca (gz cl ca e) (BV md (gz cl ca e)) e}|ret e=>exact{o:=retS (BV md (gz cl ca e))}|assign t e=>exact{o:=Zg t.isTup t.len (evT cl ca t) (BV md (gz cl ca e))}|D7 t a b ha hb=>exact{o:=D7 (gz cl ca t).e ha.s hb.s}|iG t b hb=>exact{o:=V8 (gz cl ca t).e hb.s nz}|iH tg one it b hb=>exact{o:=iH (gz cl ca it).i hb.s tg one}|f9 e=>exact{o:=Zf (gz cl ca e).e}|nJ b hb=>exact{o:=TY hb.s}|nil=>exact{s:=Ze}|cons s ss h hs=>exact{s:=PH h.o hs.s}
structure Hl(sp:Spec)(m:S)(r:Zp):Prop where
 o:Ty sp m r.o
 s:DE sp m r.s
structure acn(sp:Spec)(m:T)(r:TvR):Prop where
 o:Tt sp m r.o
 s:V9 sp m r.s
def noY{sp m}:Ty sp m λj j j=>none:=λ_ _ _ _ (e:none=some _)=>eA e
def aco{sp m}:DE sp m λj j j=>none:=λ_ _ _ _ (e:none=some _)=>eA e
def noT{sp m}:Tt sp m λj j j j=>none:=λ_ _ _ _ _ (e:none=some _)=>eA e
def T7{sp m}:V9 sp m λj j j j=>none:=λ_ _ _ _ _ (e:none=some _)=>eA e
def Hl.Zd{sp m f}(h:DE sp m f):Hl sp m {s:=f}:=⟨noY,h⟩
def Hl.PN{sp m f}(h:Ty sp m f):Hl sp m {o:=f}:=⟨h,aco⟩
section
variable{sp:Spec}{cl ca:Cl}{m:E}{a:Ev}
def MQ(v:Value):aX (Zq v) λn=>v=.ref n:=by cases v<;>first|exact trivial|exact rfl
def MR(m:E):aX (fnOf m) λn=>m=.glob (.ref n):=by
 cases m with
 |glob v=>exact nW (MQ v) λn e=>ak E.glob e|_=>exact trivial
def Hm(m:Me):aX (ownOf m) λn=>m=.own n:=by cases m<;>first|exact trivial|exact rfl
def Hn(C:iK sp cl)(D:iK sp ca)(h:Te sp m a):Ty sp (.expr m) (PM cl ca (gz cl ca m) a m):=by
 cases m with
 |call f m=>
  show Ty sp (.expr (.call f m)) ((fnOf f).elim (uy a) λb=>Hf cl b (gz cl ca m).s)
  cases e:fnOf f with
  |none=>exact Ad h|some b=>cases az (C:=λn=>f=.glob (.ref n)) (MR f) e;exact y_call C (dv C D m).s
 |jU o n m=>
  show Ty sp (.expr (.jU o n m)) ((ownOf n).elim (uy a) λn=>TX cl n (gz cl ca o).e (gz cl ca m).s)
  cases e:ownOf n with
  |none=>exact Ad h|some b=>cases az (C:=λb=>n=.own b) (Hm n) e;exact Zk C (dv C D o).e (dv C D m).s
 |_=>exact Ad h
def Ho(C:iK sp cl)(D:iK sp ca)(m:T):acn sp m (evT cl ca m):=by
 induction m with
 |name i=>exact⟨T1,T7⟩|idx l r=>exact⟨PJ (dv C D l).e (dv C D r).e,T7⟩|tup t ts h hs=>exact⟨noT,T2 h.o hs.s⟩|nil=>exact⟨noT,Zl⟩|_=>exact⟨noT,T7⟩
def vG(C:iK sp cl)(D:iK sp ca)(md:Bool)(m:E):Te sp m (BV md (gz cl ca m)):=by
 cases md with
 |true=>exact(dv C D m).a|false=>exact(dv C D m).e
def cF(C:iK sp cl)(D:iK sp ca)(md:Bool)(m:S):Hl sp m (MP cl ca md m):=by
 induction m with
 |expr e=>exact .PN (Hn C D (vG C D md e))|ret e=>exact .PN (y_ret (vG C D md e))|assign t e=>exact .PN (Zm (vG C D md e) (Ho C D t).o (Ho C D t).s)|D7 t a b ha hb=>exact .PN (acm (dv C D t).e ha.s hb.s)|iG t b hb=>exact .PN (MM (dv C D t).e hb.s)|iH tg one it b hb=>exact .PN (Zn (dv C D it).i hb.s)|f9 e=>exact .PN (Zj (dv C D e).e)|nJ b hb=>exact .PN (Zo hb.s)|nil=>exact .Zd (Zi)|cons s ss h hs=>exact .Zd (TZ h.o hs.s)
end
open Classical in
def Ju{α:Type}(x:α)(σ:Sg):α->Sg->aw:=λy τ=>if y=x/\τ=σ then some .mark else none
def lZ{α:Type}(x:α)(σ:Sg):Ju x σ x σ=some .mark:=av ⟨rfl,rfl⟩
def Ag{α:Type}{x y:α}{σ τ:Sg}{C:α->Sg->Prop}(e:Ju x σ y τ=some .mark)(c:C x σ):C y τ:=by
 unfold Ju at e;by_cases z:y=x/\τ=σ
 ·exact z.1.symm▸z.2.symm▸c
 ·rw[aB z]at e;exact eA e
section
variable{sp:Spec}{w:Wd}{ρt:bU}{ρ:aS}{m:E}{s:S}{X:bA}{t:Tr}{ts:ah}{σ:Sg}{ρ1:bU}
def Zr{Q:dm}{w':Wd}{u:Tr}{v:Value}(K:Kr w t σ Q)(L:w.Le w')(r:w'.R u v)(e:Ju t σ u w'.σ=some .mark):Q v w'.h:=by
 have:u=t/\w'.σ=σ:=Ag (C:=λu τ=>u=t/\τ=σ) e ⟨rfl,rfl⟩;exact K w' v L this.2 (this.1▸r)
def mY{f:Ev}{Q:dm}(T:Te sp m f)(r:gR w ρt ρ)(e:∀k,f ρt w.σ k=k t σ)(K:Kr w t σ Q):eB sp aG ρ m w.h Q X:=
 T ⟨w,ρt,ρ,.mark,r⟩ (Ju t σ) Q X ((e _).trans (lZ t σ)) λw' u v L r e=>Zr K L r e
def qe{f:tH}{Q:ai->bA}(T:Ts sp m f)(r:gR w ρt ρ)(e:∀k,f ρt w.σ k=k ts σ)(K:∀w' vs,w.Le w'->w'.σ=σ->w'.L ts vs->Q vs w'.h):fP sp aG ρ m w.h Q X:=
 T ⟨w,ρt,ρ,.mark,r⟩ (Ju ts σ) Q X ((e _).trans (lZ ts σ)) λw' u v L r e=>by
  have:u=ts/\w'.σ=σ:=Ag (C:=λu τ=>u=ts/\τ=σ) e ⟨rfl,rfl⟩;exact K w' v L this.2 (this.1▸r)
def Kst(w:Wd)(ρ1:bU)(σ:Sg)(Q:qC):Prop:=∀w' ρ',w.Le w'->w'.σ=σ->gR w' ρ1 ρ'->Q ρ' w'.h
def Ah{Q:qC}{w':Wd}{u:bU}{ρ':aS}(K:Kst w ρ1 σ Q)(L:w.Le w')(r:gR w' u ρ')(e:Ju ρ1 σ u w'.σ=some .mark):Q ρ' w'.h:=by
 have:u=ρ1/\w'.σ=σ:=Ag (C:=λu τ=>u=ρ1/\τ=σ) e ⟨rfl,rfl⟩;exact K w' ρ' L this.2 (this.1▸r)
def l6{f:Sv}{Q:lM}(T:DE sp s f)(r:gR w ρt ρ)(e:∀k,f ρt w.σ k=k ρ1 σ)(K:Kst w ρ1 σ λρ' h=>Q (.next ρ') h):bH sp aG s ρ w.h Q X:=
 T ⟨w,ρt,ρ,.mark,r⟩ (Ju ρ1 σ) Q X ((e _).trans (lZ ρ1 σ)) ⟨nofun,nofun⟩ λw' u ρ' L r e=>Ah K L r e
noncomputable def hd:Nat->S->S
 |0,_=>.nil|n+1,s=>match s with
  |.cons a b=>.cons a (hd n b)|s=>s
noncomputable def tl:Nat->S->S
 |0,s=>s|n+1,s=>match s with
  |.cons _ b=>tl n b|_=>.nil
end
noncomputable def T8(ρ:aS):E->bq|.loc i=>(ρ[i]?).bind id|.lit v=>some v|_=>none
noncomputable def Hq:List (At×E)->S|[]=>.nil|p::l=>.cons (.assign (.attr (.loc 0) p.1) p.2) (Hq l)
def Ai(ρ:aS):List (At×E)->List (At×Value)->Option (List (At×Value))|[],fs=>some fs|p::l,fs=>(T8 ρ p.2).bind λv=>if fs.length<1000 then Ai ρ l (og fs p.1 v)else none
section
variable{sp:Spec}{ρ:aS}{h:Hp}{x d c:Addr}{X:bA}{Q:lM}
def T9(i:Nat):aX ((ρ[i]?).bind id) λv=>∀K,K v h->eB sp aG ρ (.loc i) h K X:=by
 show aX ((ρ[i]?).bind id) λv=>∀K:Value->Hp->Prop,K v h->lL ρ[i]? λv=>K v h
 cases ρ[i]? with
 |none=>exact trivial|some o=>cases o with
  |none=>exact trivial|some v=>exact λK k=>k
def Ua(m:E):aX (T8 ρ m) λv=>∀K,K v h->eB sp aG ρ m h K X:=by
 cases m with
 |loc i=>exact T9 i|lit w=>exact λK k=>k|_=>exact trivial
def Ub{m:E}{v:Value}{K:dm}(e:T8 ρ m=some v)(k:K v h):eB sp aG ρ m h K X:=az (C:=λv=>∀K,K v h->eB sp aG ρ m h K X) (Ua m) e K k
def Hp.set_set{o p:MO}:(h.set d o).set d p=h.set d p:=funext λb=>by
 by_cases z:b=d
 ·rw[z,Hp.set_same,Hp.set_same]
 ·rw[Hp.bj z,Hp.bj z,Hp.bj z]
def Hp.set_comm{o p:MO}(n:x≠d):(h.set d o).set x p=(h.set x p).set d o:=funext λb=>by
 by_cases z:b=d
 ·rw[z,Hp.set_same,Hp.bj (b8 n),Hp.set_same]
 ·rw[Hp.bj z];by_cases y:b=x
  ·rw[y,Hp.set_same,Hp.set_same]
  ·rw[Hp.bj y,Hp.bj y,Hp.bj z]
def Hs(h0:ρ[0]? =some (some (.ref x))){l:List (At×E)}:∀{fs TV:List (At×Value)}{h:Hp},Ai ρ l fs=some TV->h x=some (.inst c d)->x≠d->Q (.next ρ) ((h.set d (.ns TV)))->h d=some (.ns fs)->bH sp aG (Hq l) ρ h Q X:=by
 induction l with
 |nil=>
  intro fs TV h e hx n q hd;obtain rfl:=ar e;have:h.set d (.ns fs)=h:=funext λb=>by
   by_cases z:b=d
   ·rw[z,Hp.set_same,hd]
   ·rw[Hp.bj z]
  rw[this]at q;exact q
 |cons p l ih=>
  intro fs TV h e hx n q hd;refine af e λv e1 e=>?_;obtain⟨ln,e⟩:=fL e;refine Ub e1 (show lL ρ[0]? _ from ?_);rw[h0];refine⟨c,d,fs,hx,hd,ln,ih e ((Hp.bj n).trans hx) n (by rw[Hp.set_set];exact q) Hp.set_same⟩
end
section
variable{w:Wd}{ts:ah}{vs:ai}{Q:dm}{X:bA}{n:Nat}
def vH{a i:Addr}{F:Fn}{l:List (At×E)}{ns:List At}{ws:ai}(hk:aG.kind a=.cls i)(hF:du i=some F)(hb:F.body=Hq l)(hp:vs.length+1<=F.params/\F.params<=vs.length+1+F.fR.length)
  (run:∀x:Addr,(args F (.ref x::vs))[0]? =some (some (.ref x))/\Ai (args F (.ref x::vs)) l []=some (ns.zip ws)) (r:w.L ts ws) (K:Kr w (.obj a ns ts) w.σ Q):dD (bt du aG (n+1)) aG vs w.h Q X a:=by
 refine .cls i hk λd x hd hx ne=>⟨F,hF,hp.1,hp.2,?_⟩
 rw[hb];have e1:(w.new (.ns (ns.zip ws)) hd).h x=none:=(Hp.bj ne).trans hx;have L:=(w.dE (o:=.ns (ns.zip ws)) hd).trans ((w.new (.ns (ns.zip ws)) hd).dE (o:=.inst a d) e1);refine Hs (run x).1 (run x).2 Hp.set_same ne ?_ ((Hp.bj (b8 ne)).trans Hp.set_same);have hh:(((w.h.set d (.ns [])).set x (.inst a d)).set d (.ns (ns.zip ws)))=((w.new (.ns (ns.zip ws)) hd).new (.inst a d) e1).h:=by
  show _=(w.h.set d (.ns (ns.zip ws))).set x (.inst a d)
  rw[Hp.set_comm ne,Hp.set_set,Hp.set_comm ne]
 refine⟨rfl,?_⟩;rw[hh];exact K ((w.new (.ns (ns.zip ws)) hd).new (.inst a d) e1) (.ref x) L rfl ⟨d,ws,Hp.set_same,w.fr hx,(Hp.bj (b8 ne)).trans Hp.set_same,w.fr hd,L.L r⟩
def PO{n:Nat}{vs:ai}{C:ai->Prop}(l:vs.length=n+1)(f:∀a us,us.length=n->C (a::us)):C vs:=by
 cases vs with
 |nil=>cases l|cons a us=>exact f a us (Nat.succ.inj l)
def acp{vs:ai}{C:ai->Prop}(l:vs.length=0)(f:C []):C vs:=by
 cases vs with
 |nil=>exact f|cons=>cases l
def three{C:ai->Prop}(l:vs.length=3)(f:∀a b c,C [a,b,c]):C vs:=PO l λa j l=>PO (C:=λu=>C (a::u)) l λb j l=>PO (C:=λu=>C (a::b::u)) l λc j l=>acp (C:=λu=>C (a::b::c::u)) l (f a b c)
def Uc{C:ai->Prop}(l:vs.length=5)(f:∀a b c d e,C [a,b,c,d,e]):C vs:=PO l λa j l=>PO (C:=λu=>C (a::u)) l λb j l=>three (C:=λu=>C (a::b::u)) l λc d e=>f a b c d e
def Zs{C:ai->Prop}(l:vs.length=8)(f:∀a b c d e g h i,C [a,b,c,d,e,g,h,i]):C vs:=PO l λa j l=>PO (C:=λu=>C (a::u)) l λb j l=>PO (C:=λu=>C (a::b::u)) l λc j l=>Uc (C:=λu=>C (a::b::c::u)) l λd e g h i=>f a b c d e g h i
end
def tJ(h:Hp)(x d:Addr)(fs:List (At×Value)):Hp:=(h.set d (.ns fs)).set x (.inst 407 d)
section
variable{sp:Spec}{ρ:aS}{h:Hp}{x d:Addr}{fs:List (At×Value)}
def sx(hx:h x=none)(hd:h d=none):h.Le (tJ h x d fs):=λb o e=>(Hp.bj λz=>aI hx (z▸e)).trans ((Hp.bj λz=>aI hd (z▸e)).trans e)
def oY{o:MO}{Q:dm}(ne:x≠d)(hx:h x=none)(hd:h d=none)(K:∀a,h a=none->(h.set a o) x=none->(h.set a o) d=none->Q (.ref a) (tJ (h.set a o) x d fs)):dj o (tJ h x d fs) Q:=λa e=>by
 have n1:a≠x:=λz=>by cases z;exact aI e Hp.set_same
 have n2:a≠d:=λz=>by cases z;exact aI e ((Hp.bj (b8 ne)).trans Hp.set_same)
 have z:(tJ h x d fs).set a o=tJ (h.set a o) x d fs:=by
  unfold tJ;rw[Hp.set_comm (b8 n2),Hp.set_comm (b8 n1)]
 rw[z];exact K a (is_none λm q=>aI e (sx hx hd a m q)) ((Hp.bj (b8 n1)).trans hx) ((Hp.bj (b8 n2)).trans hd)
def qL{a:At}{v:Value}{K:qC}(ne:x≠d)(e:ρ[0]? =some (some (.ref x)))(l:Nat.blt fs.length 1000=true)(k:K ρ (tJ h x d (og fs a v))):Qv sp aG (.attr (.loc 0) a) v ρ (tJ h x d fs) K:=by
 show lL ρ[0]? _
 rw[e];refine⟨407,d,fs,Hp.set_same,(Hp.bj (b8 ne)).trans Hp.set_same,bg l,?_⟩;have z:(tJ h x d fs).set d (.ns (og fs a v))=tJ h x d (og fs a v):=by
  unfold tJ;rw[<-Hp.set_comm ne,Hp.set_set]
 rw[z];exact k
end
def Ht(t:Tr):Option Str:=(qd t .kind).bind strOf
def iB(t:Tr):Option ah:=(qd t .rows).bind G9
def uz(b:Bool)(t u:Tr):Option ah:=bif b then(lY u).bind λus=>if us.length<aq then some (t::us)else none else some [t]
def DF(σ:Sg)(t:Tr)(rows seen:ah):Option (Tr×Sg):=if rows.length<=aq then some (.obj 407 [.code,.seen,.gF,.waiting] [t,.lst seen,.cell σ.length,.cell (σ.length+1)],σ++[.buf none (List.replicate rows.length (.val .none)) 0]++[.buf none [] aq])else none
def Zt(ts:ah)(σ:Sg):Option (Tr×Sg):=(two ts).bind λq=>(Ht q.1).bind λkd=>(iB q.1).bind λrows=>(uz (kd==ofString "block") q.1 q.2).bind (DF σ q.1 rows)
section
variable{w:Wd}{t u:Tr}{v z:Value}{ρ:aS}{h:Hp}{X:bA}{Q:dm}{n:Nat}{i:Nat}
def V'{v:Value}{P:hJ}(e:ρ[i]? =some (some v))(k:P v):lL ρ[i]? P:=by rw[e];exact k
inductive Aj(w:Wd)(a:At)(x:Tr)(v:Value):Prop
 |mk (y):w.R x y->(∀h Q,w.h.Le h->Q y h->uK v a h Q)->Aj w a x v
def xH{a:At}{x:Tr}(r:w.R t v)(e:qd t a=some x):Aj w a x v:=
 af e λq e1 e=>kR (C:=λv=>Aj w a x v) (az (C:=λq=>bp v (V6 w.f w.h q.1 q.2.1 (w.L q.2.2))) (z5 r) e1) λb o=>by
  cases o with
  |mk d vs m1 n1 m2 n2 q=>cases(key_is q).got e with
   |mk y e3 ry=>exact⟨y,ry,λh Q L k=>⟨_,d,_,y,L _ _ m1,L _ _ m2,e3,km ry,k⟩⟩
def MS{s:Str}(r:w.R t v)(e:Ht t=some s)(L:w.h.Le h)(K:Q (.bool (s==ofString "block")) h)(e1:ρ[1]? =some (some v)):eB (bt du aG n) aG ρ (.cmp (.attr (.loc 1) .kind) (.jz .Eq (.lit (str (ofString "block"))) .nil)) h Q X:=
 af e λx e2 e=>V' e1 (by
  cases xH r e2 with
  |mk y ry k=>exact k h _ L (oP (C:=λy=>Got (qR h .Eq y (str (ofString "block"))) λb=>Q (.bool b) h) (str_is ry e) λs' j z=>z▸⟨_,rfl,K⟩))
def MT{rows:ah}(r:w.R t v)(e:iB t=some rows)(L:w.h.Le h)(K:Q (int rows.length) h)(e1:ρ[1]? =some (some v)):eB (bt du aG n) aG ρ (.call (.glob (.builtin "len")) (.cons (.attr (.loc 1) .rows) .nil)) h Q X:=
 af e λx e2 e=>V' e1 (by
  cases xH r e2 with
  |mk y ry k=>exact k h _ L (.len rfl (by
   cases az (C:=λts=>iL w fJ ts y) (xD ry) e with
   |mk a vs na m q=>exact⟨vs,oV _ _ (by rw[L a _ (eN m)];rfl),by rw[bw q];exact K⟩)))
def Hu(k:Nat):w.L (List.replicate k (.val .none)) (List.replicate k .none):=by
 induction k with
 |zero=>exact trivial|succ k ih=>exact⟨⟨rfl,rfl⟩,ih⟩
def MU{b:Bool}{seen:ah}{x d:Addr}{fs:List (At×Value)}(r:w.R t v)(ru:w.R u z)(e:uz b t u=some seen)(e1:ρ[1]? =some (some v))(e2:ρ[2]? =some (some z))(hx:w.h x=none)(hd:w.h d=none)(ne:x≠d)
  (K:∀vs a,w.L seen vs->w.h a=none->(w.h.set a (.list vs)) x=none->(w.h.set a (.list vs)) d=none->Q (.ref a) (tJ (w.h.set a (.list vs)) x d fs)):mO b (eB (bt du aG n) aG ρ (.listS (.loc 1) (.loc 2)) (tJ w.h x d fs) Q X) (eB (bt du aG n) aG ρ (.list (.cons (.loc 1) .nil)) (tJ w.h x d fs) Q X):=by
 cases b with
 |false=>obtain rfl:=ar e;exact V' e1 (oY ne hx hd λa ea=>K [v] a ⟨r,trivial⟩ ea)|true=>
  refine af e λus e3 e=>?_;obtain⟨l,rfl⟩:=fh e
  cases vE ru e3 with
  |mk c ws nc m q=>
   have m':dP (tJ w.h x d fs c)=some ws:=by
    cases y:w.h c with
    |none=>rw[y]at m;exact eA m|some o=>rw[sx hx hd c o y,<-y];exact m
   exact V' e1 (V' e2 ⟨ws,m',by rw[bw q];exact l,oY ne hx hd λa ea=>K (v::ws) a ⟨r,q⟩ ea⟩)
def vI{sp:Spec}{o m:E}{a:At}{ss:S}{Q:lM}(k:eB sp aG ρ m h (λv h'=>Qv sp aG (.attr o a) v ρ h' λρ' iV=>bH sp aG ss ρ' iV Q X) X):bH sp aG (.cons (.assign (.attr o a) m) ss) ρ h Q X:=k
def Zu{sp:Spec}{v:Value}(e:ρ[i]? =some (some v))(k:Q v h):eB sp aG ρ (.loc i) h Q X:=V' e k
def w_ite{sp:Spec}{c a b:E}(k:eB sp aG ρ c h (λv h'=>dh v λb'=>mO b' (eB sp aG ρ a h' Q X) (eB sp aG ρ b h' Q X)) X):eB sp aG ρ (.ite c a b) h Q X:=k
def Zv{sp:Spec}{m:E}(k:dj (.list [.none]) h (λv h1=>eB sp aG ρ m h1 (λw h2=>lJ .Mult v w h2 Q) X)):eB sp aG ρ (.bin .Mult (.list (.cons (.lit .none) .nil)) m) h Q X:=k
def Zw{sp:Spec}(k:dj (.list []) h Q):eB sp aG ρ (.list .nil) h Q X:=k
def Ud{a:Addr}{k:Nat}(ha:h a=some (.list [.none]))(l:k<=aq)(K:dj (.list (List.replicate k .none)) h Q):lJ .Mult (.ref a) (int k) h Q:=
 ⟨[.none],rfl,ha,by rw[Int.toNat_natCast,List.length_singleton,Nat.one_mul];exact l,bP (by rw[Int.natAbs_natCast];exact l) aP,by rw[Int.toNat_natCast,List.flatten_replicate_singleton];exact K⟩
def Hv{rows seen:ah}{x d:Addr}{s:Str}(r:w.R t v)(ru:w.R u z)(ek:Ht t=some s)(er:iB t=some rows)(es:uz (s==ofString "block") t u=some seen){y:Tr×Sg}(ey:DF w.σ t rows seen=some y)(hx:w.h x=none)(hd:w.h d=none)(ne:x≠d)
  (K:Kr w y.1 y.2 Q):bt du aG (n+1) 350 [.ref x,v,z] (tJ w.h x d []) (λv h'=>v=.none/\Q (.ref x) h') X:=by
 obtain⟨ln,rfl⟩:=fh ey;refine⟨lq,aO,aH 3,aH 3,?_⟩
 show bH (bt du aG n) aG lp [some (.ref x),some v,some z] (tJ w.h x d []) _ X
 refine vI (Zu rfl (qL ne rfl rfl (vI (w_ite (MS r ek (sx hx hd) (MU r ru es rfl rfl hx hd ne λvs a rv ea hx hd=>qL ne rfl rfl (vI (Zv ?_))) rfl)))));have L1:=w.dE (o:=.list vs) ea;have ra:(w.new (.list vs) ea).R (.lst seen) (.ref a):=Bv ea rv;have e1:(w.new (.list vs) ea).σ=w.σ:=rfl
 show dj _ (tJ (w.new (.list vs) ea).h x d _) _
 replace hx:(w.new (.list vs) ea).h x=none:=hx
 replace hd:(w.new (.list vs) ea).h d=none:=hd
 generalize w.new (.list vs) ea=w1 at hx hd L1 ra e1;refine oY (o:=.list [.none]) ne hx hd λb eb hx hd=>?_;have L2:=L1.trans (w1.dE (o:=.list [.none]) eb);have ra:=(w1.dE (o:=.list [.none]) eb).R ra;have hb:(w1.new (.list [.none]) eb).h b=some (.list [.none]):=Hp.set_same;have e2:(w1.new (.list [.none]) eb).σ=w.σ:=e1
 show eB _ _ _ _ (tJ (w1.new (.list [.none]) eb).h x d _) _ X
 replace hx:(w1.new (.list [.none]) eb).h x=none:=hx
 replace hd:(w1.new (.list [.none]) eb).h d=none:=hd
 generalize w1.new (.list [.none]) eb=w2 at hx hd L2 ra hb e2;have rv2:w2.L (List.replicate rows.length (.val .none)) (List.replicate rows.length .none):=Hu rows.length;have rc:iP w2.f w2.h (.buf none (List.replicate rows.length (.val .none)) 0) (some (.list (List.replicate rows.length .none))):=⟨_,rfl,_,rfl,rv2,by rw[List.length_replicate];exact ln⟩
 refine MT (L2.R r) er (sx hx hd) (Ud (sx hx hd b _ hb) ln (oY ne hx hd λc ec hx hd=>qL ne rfl rfl (vI (Zw ?_)))) rfl;have L3:=L2.trans (w2.jG ec rc);have ra:=(w2.jG ec rc).R ra;have c1:(w2.cell _ ec rc).R (.cell w.σ.length) (.ref c):=e2▸w2.oS ec rc;have e3:(w2.cell _ ec rc).σ=w.σ++[.buf none (List.replicate rows.length (.val .none)) 0]:=ak (·++_) e2
 show dj _ (tJ (w2.cell _ ec rc).h x d _) _
 replace hx:(w2.cell _ ec rc).h x=none:=hx
 replace hd:(w2.cell _ ec rc).h d=none:=hd
 generalize w2.cell _ ec rc=w3 at hx hd L3 ra c1 e3;refine oY ne hx hd λg eg hx hd=>qL ne rfl rfl ?_;have rc:iP w3.f w3.h (.buf none [] aq) (some (.list [])):=⟨_,rfl,[],rfl,trivial,aH _⟩
 have L4:=L3.trans (w3.jG eg rc);have ra:=(w3.jG eg rc).R ra;have c1:=(w3.jG eg rc).R c1;have c2:(w3.cell _ eg rc).R (.cell (w.σ.length+1)) (.ref g):=by
  have:=w3.oS eg rc;rw[e3,aE]at this;exact this
 have e4:(w3.cell _ eg rc).σ=w.σ++[.buf none (List.replicate rows.length (.val .none)) 0]++[.buf none [] aq]:=ak (·++_) e3;refine⟨rfl,?_⟩
 show Q (.ref x) (tJ (w3.cell _ eg rc).h x d (((([At.code,.seen,.gF,.waiting].zip [v,.ref a,.ref c,.ref g])))))
 replace hx:(w3.cell _ eg rc).h x=none:=hx
 replace hd:(w3.cell _ eg rc).h d=none:=hd
 generalize w3.cell _ eg rc=w4 at hx hd L4 ra c1 c2 e4;have VV:(w4.new (.ns ([At.code,.seen,.gF,.waiting].zip [v,.ref a,.ref c,.ref g])) hd).h x=none:=(Hp.bj ne).trans hx;have L5:=(w4.dE (o:=.ns ([At.code,.seen,.gF,.waiting].zip [v,.ref a,.ref c,.ref g])) hd).trans (Wd.dE _ (o:=.inst 407 d) VV);exact K ((w4.new _ hd).new (.inst 407 d) VV) (.ref x) (L4.trans L5) e4 ⟨d,_,Hp.set_same,w4.fr hx,(Hp.bj (b8 ne)).trans Hp.set_same,w4.fr hd,L5.R (L4.R r),L5.R ra,L5.R c1,L5.R c2,trivial⟩
end
section
variable{w:Wd}{ts:ah}{vs:ai}{Q:dm}{X:bA}{n:Nat}
noncomputable def MV(a:Addr)(ts:ah):aT:=
 if a=87 then(if ts.length=5 then some (.obj 87 [.op,.a,.b,.c,.line] ts)else none)
 else if a=115 then(if ts.length=5 then some (.obj 115 [.sort,.first,.last,.target,.depth] ts)else none)
 else if a=150 then(if ts.length=8 then some (.obj 150 [.kind,.name,.params,.slots,.rows,.hY,.children,.starts,.number] (ts++[.val .none]))else none)
 else none
def MW{a:Addr}{t:Tr}(e:MV a ts=some t)(r:w.L ts vs)(K:Kr w t w.σ Q):dD (bt du aG (n+1)) aG vs w.h Q X a:=by
 have ln:=bw r;unfold MV at e;by_cases z:a=87
 ·rw[av z]at e;obtain⟨l,rfl⟩:=fh e;subst z;revert r K;exact Uc (C:=λvs=>w.L ts vs->Kr w _ w.σ Q->dD (bt du aG (n+1)) aG vs w.h Q X 87) (ln.trans l) λa b c d e r K=>vH (l:=[(.op,.loc 1),(.a,.loc 2),(.b,.loc 3),(.c,.loc 4),(.line,.loc 5)]) (i:=77) (aO) (F:=qX) (aO) (aO) ⟨aH 6,aW 6 4⟩ (λx=>⟨rfl,aO⟩) r K
 rw[aB z]at e;by_cases z:a=115
 ·rw[av z]at e;obtain⟨l,rfl⟩:=fh e;subst z;revert r K;exact Uc (C:=λvs=>w.L ts vs->Kr w _ w.σ Q->dD (bt du aG (n+1)) aG vs w.h Q X 115) (ln.trans l) λa b c d e r K=>vH (l:=[(.sort,.loc 1),(.first,.loc 2),(.last,.loc 3),(.target,.loc 4),(.depth,.loc 5)]) (i:=105) (aO) (F:=oh) (aO) (aO) ⟨aH 6,aH 6⟩ (λx=>⟨rfl,aO⟩) r K
 rw[aB z]at e;obtain⟨z,e⟩:=fL e;obtain⟨l,rfl⟩:=fh e;subst z;revert r K;exact Zs (C:=λvs=>w.L ts vs->Kr w _ w.σ Q->dD (bt du aG (n+1)) aG vs w.h Q X 150) (ln.trans l) λa b c d e g h i r K=>vH (l:=[(.kind,.loc 1),(.name,.loc 2),(.params,.loc 3),(.slots,.loc 4),(.rows,.loc 5),(.hY,.loc 6),(.children,.loc 7),(.starts,.loc 8),(.number,.lit .none)]) (i:=133) (aO) (F:=p5) (aO) (aO) ⟨aH 9,aH 9⟩ (λx=>⟨rfl,aO⟩) (hZ r (xv (vs:=[.none]) rfl)) K
def MX{y:Tr×Sg}(e:Zt ts w.σ=some y)(r:w.L ts vs)(K:Kr w y.1 y.2 Q):dD (bt du aG (n+1)) aG vs w.h Q X 407:=
 af e λq e1 e=>af e λs e2 e=>af e λrows e3 e=>af e λseen e4 e=>g2 (C:=λvs=>dD (bt du aG (n+1)) aG vs w.h Q X 407) (pO r e1) λv z rq=>.cls 350 (aO) λd x hd hx ne=>Hv rq.1 rq.2 e2 e3 e4 e hx hd ne K
def Hw(a:Addr)(ts:ah)(σ:Sg):Option (Tr×Sg):=if a=407 then Zt ts σ else(MV a ts).map λt=>(t,σ)
def MY{a:Addr}{y:Tr×Sg}(e:Hw a ts w.σ=some y)(r:w.L ts vs)(K:Kr w y.1 y.2 Q):dD (bt du aG (n+1)) aG vs w.h Q X a:=by
 unfold Hw at e;by_cases z:a=407
 ·rw[av z]at e;subst z;exact MX e r K
 ·rw[aB z]at e;obtain⟨t,e2,rfl⟩:=dA e;exact MW e2 r K
end
def HA(F:Fn)(ts:ah):bU:=(ts++(F.fR.drop (ts.length+F.fR.length-F.params)).map globT).map some++List.replicate (F.size-F.params) none
noncomputable def MZ(md:Bool)(a:Addr):Bool:=bif md then a==454||a==475||a==480||a==551 else a==475||a==480||a==551
noncomputable def doneK:gZ:=λj σ=>some (.ret (.val .none) σ)
def DG(cl ca:Cl)(md:Bool)(F:Fn)(ts:ah)(σ:Sg):aw:=if ts.length<=F.params/\F.params<=ts.length+F.fR.length/\F.fR.all handed=true then(MP cl ca md F.body).s (HA F ts) σ doneK else none
def sy(cl ca:Cl)(md:Bool)(a:Addr)(ts:ah)(σ:Sg):aw:=(du a).elim ((Hw a ts σ).map λq=>.ret q.1 q.2) λF=>bif a==475||a==480||a==551||a==420 then(DG cl ca (MZ md a) F ts σ).map (yo σ.length)else DG cl ca (MZ md a) F ts σ
def dW(B:Nat->Cl):Nat->Bool->Cl|0=>λj j j j=>none|n+1=>λmd a ts σ=>(B n a ts σ).elim (sy (dW B n false) (dW B n true) md a ts σ) some
noncomputable def Ak:Nat->Cl:=λj j j j=>none
section
variable{w:Wd}{ts:ah}{vs:ai}{Q:dm}{X:bA}{n:Nat}{cl ca:Cl}{a:Addr}{o:Out}{md:Bool}
def HB{ts:ah}{vs:ai}(k:Nat)(r:w.L ts vs):gR w (ts.map some++List.replicate k none) (vs.map some++List.replicate k none):=by
 refine⟨by simp[bw r],λi t e=>?_⟩;by_cases l:i<ts.length
 ·rw[fO (by rw[au];exact l),cy]at e;obtain⟨t',e,z⟩:=dA e;cases z
  cases pM r e with
  |mk v ev rv=>
   rw[fO (by rw[au,bw r];exact l),cy,ev];exact rv
 ·rw[fD (by rw[au];exact Nat.le_of_not_lt l),List.getElem?_replicate]at e;exact absurd e (by split<;>nofun)
def DH{vs:ai}:vs.all handed=true->w.L (vs.map globT) vs:=by
 induction vs with
 |nil=>exact λj=>trivial|cons v vs ih=>exact λe=>⟨xw (aA e).1,ih (aA e).2⟩
def kX{F:Fn}(hF:F.fR.all handed=true)(r:w.L ts vs):gR w (HA F ts) (args F vs):=by
 unfold HA args;rw[bw r];exact HB _ (hZ r (DH (List.all_eq_true.mpr λx hx=>bQ hF x (List.mem_of_mem_drop hx))))
def mI{P:Pl}{Q:dm}{X:bA}(E:Kq P.w P.o Q X):P.Kn doneK λfl h=>eZ fl (λj=>Q .none h) λv=>Q v h:=λw' ρt ρ L r e=>E.1 _ _ (ar e).symm w' .none L rfl ⟨rfl,rfl⟩
def vJ{F:Fn}(C:iK (bt du aG n) cl)(D:iK (bt du aG n) ca)(hF:du a=some F)(e:DG cl ca md F ts w.σ=some o)(r:w.L ts vs)(E:Kq w o Q X):bt du aG (n+1) a vs w.h Q X:=by
 obtain⟨le,e⟩:=fL e;exact⟨F,hF,by rw[bw r];exact le.1,by rw[bw r];exact le.2.1,(cF C D md F.body).s ⟨w,HA F ts,args F vs,o,kX le.2.2 r⟩ _ _ _ e E (mI (P:=⟨w,HA F ts,args F vs,o,kX le.2.2 r⟩) E)⟩
def PQ(E:Kq w (yo w.σ.length o) Q X):Kq w o Q X:=by
 cases o with
 |ret t σ=>exact⟨λt' σ' e w' v L s r=>by
  injection e with e1 e2
  subst e1 e2 s;exact E.1 _ _ rfl (w'.fz w.σ.length) v (Wd.xF L (aH _)) rfl (Hk r),nofun⟩
 |bad=>exact⟨nofun,λj=>E.2 rfl⟩|mark=>exact⟨nofun,nofun⟩
def Zx(n:Nat)(B:Cl):Prop:=∀{a ts o vs}{w:Wd}{Q:dm}{X:bA},B a ts w.σ=some o->aG.kind a=.fn/\(w.L ts vs->Kq w o Q X->bt du aG (n+1) a vs w.h Q X)
def BW(C:iK (bt du aG n) cl)(D:iK (bt du aG n) ca){F:Fn}(hF:du a=some F)(e:sy cl ca md a ts w.σ=some o)(r:w.L ts vs)(E:Kq w o Q X):bt du aG (n+1) a vs w.h Q X:=by
 unfold sy at e;rw[hF]at e;revert e;show(bif a==475||a==480||a==551||a==420 then(DG cl ca (MZ md a) F ts w.σ).map (yo w.σ.length)else DG cl ca (MZ md a) F ts w.σ)=some o->_
 cases a==475||a==480||a==551||a==420 with
 |false=>exact λe=>vJ C D hF e r E|true=>
  intro e;obtain⟨o',e2,rfl⟩:=dA e;exact vJ C D hF e2 r (PQ E)
def HC{y:Tr×Sg}{σ:Sg}(e:Hw a ts σ=some y)(k:aG.kind a=.fn):False:=by
 unfold Hw at e;by_cases z:a=407
 ·rw[z]at k;exact nomatch(show Kd.cls 350=.fn from k)
 rw[aB z]at e;obtain⟨t,e,_⟩:=dA e;unfold MV at e;by_cases z:a=87
 ·rw[z]at k;exact nomatch(show Kd.cls 77=.fn from k)
 rw[aB z]at e;by_cases z:a=115
 ·rw[z]at k;exact nomatch(show Kd.cls 105=.fn from k)
 rw[aB z]at e;rw[(fL e).1]at k;exact nomatch(show Kd.cls 133=.fn from k)
def M0(C:iK (bt du aG n) cl)(D:iK (bt du aG n) ca){B:Cl}(hB:Zx n B):iK (bt du aG (n+1)) λa ts σ=>(B a ts σ).elim (sy cl ca md a ts σ) some:=by
 refine⟨λ{a ts o vs w Q X} kf e r K1 K2=>mW e (λo' e1 e=>by obtain rfl:=ar e;exact(hB e1).2 r ⟨K1,K2⟩) λe=>?_,λ{a ts t σ vs w Q X} e r K=>?_⟩
 ·cases hF:du a with
  |some F=>exact BW C D hF e r ⟨K1,K2⟩|none=>
   unfold sy at e;rw[hF]at e;obtain⟨t,z,_⟩:=dA e;exact(HC z kf).elim
 ·have E:Kq w (.ret t σ) Q X:=⟨λt' σ' e=>by injection e with e1 e2;exact e1▸e2▸K,nofun⟩
  refine mW e (λo' e1 e=>by obtain rfl:=ar e;exact .fn (hB (vs:=vs) (Q:=Q) (X:=X) e1).1 ((hB e1).2 r E)) λe=>?_
  cases hF:du a with
  |some F=>exact .fn (vF (by rw[hF];rfl)) (BW C D hF e r E)|none=>
   unfold sy at e;rw[hF]at e;obtain⟨t',z,e2⟩:=dA e;injection e2 with e1 e2
   exact MY z r (e1.symm▸e2.symm▸K)
def a9{B:Nat->Cl}(hB:∀n,Zx n (B n)):∀n md,iK (bt du aG n) (dW B n md):=by
 intro n
 induction n with
 |zero=>exact λmd=>⟨λj e=>(nomatch(show none=some _ from e)),λe=>(nomatch(show none=some _ from e))⟩
 |succ n ih=>exact λmd=>M0 (ih false) (ih true) (hB n)
def sA(n:Nat):Zx n (Ak n):=(λe=>eA e)
end
end fG
namespace fG
structure Gr where
 N:Nat
 starts:aC
 ok:Nat->Int->Bool
 outs:Nat->Int->bz
abbrev fy:=List (Option Int)
def qf(d:fy)(j y:Int):Prop:=0<=j/\d[j.toNat]? =some (some y)
structure Jv(g:Gr)(d:fy):Prop where
 len:d.length=g.N
 start:∀s∈g.starts,qf d s 0
 ok:∀i x,d[i]? =some (some x)->g.ok i x=true
 outs:∀i x,d[i]? =some (some x)->∀p∈g.outs i x,qf d p.1 p.2
inductive sX(g:Gr):Int->Int->Prop
 |start {s:Nat}:s∈g.starts->sX g s 0
 |step {i:Nat} {x:Int} {p:Int×Int}:sX g i x->p∈g.outs i x->sX g p.1 p.2
def sX.at{g:Gr}{d:fy}(c:Jv g d){j y:Int}(r:sX g j y):qf d j y:=by
 induction r with
 |start h=>exact c.start _ h|step _ h ih=>exact c.outs _ _ (show d[Int.toNat (Int.ofNat _)]? =_ from ih.2) _ h
def Res(g:Gr):Option fy->Prop|some d=>Jv g d/\∀(i:Nat) x,d[i]? =some (some x)->sX g i x|none=>∀d,¬Jv g d
def PU{d:fy}{j y:Int}(h:qf d j y):j<d.length:=(Int.toNat_of_nonneg h.1)▸Int.ofNat_lt.mpr (dO h.2).1
def Al{d:fy}{i:Nat}{x:Int}{o:Option Int}(f:d[i]? =some o):(d.set i (some x))[i]? =some (some x):=List.getElem?_set_self (dO f).1
def vK{d:fy}{i j:Nat}{x y:Int}(f:d[i]? =some none)(e:d[j]? =some (some y)):(d.set i (some x))[j]? =some (some y):=(hR λz=>by subst z;rw[f]at e;cases e).trans e
def set_inv{d:fy}{i j:Nat}{x y:Int}{o:Option Int}(f:d[i]? =some o)(e:(d.set i (some x))[j]? =some (some y)):(i=j/\x=y)\/d[j]? =some (some y):=by
 by_cases z:i=j
 ·subst z;rw[Al f]at e;exact .inl ⟨rfl,ar (ar e)⟩
 ·exact .inr ((hR z).symm.trans e)
def Jv.all{g:Gr}{d d':fy}(h:Jv g d/\∀(i:Nat) x,d[i]? =some (some x)->sX g i x)(c:Jv g d'){i:Nat}{x:Int}(q:d[i]? =some (some x)):d'[i]? =some (some x):=(sX.at c (h.2 i x q)).2
def Res.uniq{g:Gr}:∀{a b:Option fy},Res g a->Res g b->a=b
 |none,none,_,_=>rfl|none,some d,h,h'=>(h d h'.1).elim|some d,none,h,h'=>(h' d h.1).elim|some d,some d',h,h'=>by
  have l:d.length=d'.length:=h.1.len.trans h'.1.len.symm;refine ak some (List.ext_getElem l λi l1 l2=>?_);cases q:d[i]with
  |some x=>exact(ar ((bN l2).symm.trans (Jv.all h h'.1 ((bN l1).trans (ak some q))))).symm|none=>cases q':d'[i]with
   |none=>rfl|some y=>exact q.symm.trans (ar ((bN l1).symm.trans (Jv.all h' h.1 ((bN l2).trans (ak some q')))))
structure j6(g:Gr)(d:fy)(ws:bz):Prop where
 len:d.length=g.N
 ent:∀(i:Nat) x,d[i]? =some (some x)->sX g i x/\g.ok i x=true/\∀p∈g.outs i x,qf d p.1 p.2\/p∈ws
 Ue:∀p∈ws,sX g p.1 p.2/\0<=p.1
 start:∀s∈g.starts,qf d s 0\/((s:Int),(0:Int))∈ws
def j6.fin{g:Gr}{d:fy}(h:j6 g d []):Res g (some d):=
 ⟨⟨h.len,λs m=>(h.start s m).elim id nofun,λi x e=>(h.ent i x e).2.1,λi x e p m=>((h.ent i x e).2.2 p m).elim id nofun⟩,λi x e=>(h.ent i x e).1⟩
def j6.init{g:Gr}:j6 g (List.replicate g.N none) (g.starts.map λs:Nat=>((s:Int),(0:Int))):=by
 refine⟨List.length_replicate,λi x e=>(nomatch List.eq_of_mem_replicate (List.mem_of_getElem? e)),λp m=>?_,λs m=>.inr (jb ⟨s,m,rfl⟩)⟩;obtain⟨s,m',rfl⟩:=ja m;exact⟨.start m',d9 s⟩
def j6.top{g:Gr}{d:fy}{ws:bz}{s x:Int}(h:j6 g d (ws++[(s,x)])):sX g s x/\0<=s:=h.Ue (s,x) (fC _ (.head _))
def j6.uA{g:Gr}{d:fy}{ws:bz}{s x:Int}(h:j6 g d (ws++[(s,x)]))(f:(g.N:Int)<=s):Res g none:=λd' c=>by exact Int.not_le.mpr (c.len▸PU (h.top.1.at c)) f
def j6.two{g:Gr}{d:fy}{ws:bz}{s x y:Int}(h:j6 g d (ws++[(s,x)]))(f:d[s.toNat]? =some (some y))(ne:y≠x):Res g none:=λd' c=>by
 have r1:=(h.top.1.at c).2;have r2:=((h.ent _ _ f).1.at c).2;exact ne (ar (ar (r2.symm.trans r1)))
def j6.bad{g:Gr}{d:fy}{ws:bz}{s x:Int}(h:j6 g d (ws++[(s,x)]))(f:g.ok s.toNat x=false):Res g none:=λd' c=>by exact c8 (f.symm.trans (c.ok _ _ (h.top.1.at c).2))
def j6.drop{g:Gr}{d:fy}{ws:bz}{s x:Int}(h:j6 g d (ws++[(s,x)]))(f:d[s.toNat]? =some (some x)):j6 g d ws:=by
 have key:∀p:Int×Int,qf d p.1 p.2\/p∈ws++[(s,x)]->qf d p.1 p.2\/p∈ws:=λp q=>by
  rcases q with q|q
  ·exact .inl q
  ·rcases fZ q with q|q
   ·exact .inr q
   ·rw[cI q];exact .inl ⟨h.top.2,f⟩
 exact⟨h.len,λi y e=>⟨(h.ent i y e).1,(h.ent i y e).2.1,λp m=>key p ((h.ent i y e).2.2 p m)⟩,λp m=>h.Ue p (iT _ m),λs' m=>key ((s':Int),0) (h.start s' m)⟩
def Ug{d:fy}{i:Nat}{x:Int}(f:d[i]? =some none){j y:Int}(h:qf d j y):qf (d.set i (some x)) j y:=⟨h.1,vK f h.2⟩
def j6.add{g:Gr}{d:fy}{ws:bz}{s x:Int}(h:j6 g d (ws++[(s,x)]))(f:d[s.toNat]? =some none)(ok:g.ok s.toNat x=true)(pos:∀p∈g.outs s.toNat x,0<=p.1):
  j6 g (d.set s.toNat (some x)) (ws++g.outs s.toNat x):=by
 have me:qf (d.set s.toNat (some x)) s x:=⟨h.top.2,Al f⟩
 have key:∀p:Int×Int,qf d p.1 p.2\/p∈ws++[(s,x)]->qf (d.set s.toNat (some x)) p.1 p.2\/p∈ws++g.outs s.toNat x:=λp q=>q.elim (λq=>.inl (Ug f q)) λq=>(fZ q).elim (λq=>.inr (iT _ q)) λq=>.inl (cI q▸me);have r:sX g (s.toNat:Int) x:=(Int.toNat_of_nonneg h.top.2).symm▸h.top.1;refine⟨eJ.trans h.len,λi y e=>(set_inv f e).elim (λz=>?_) λe=>⟨(h.ent i y e).1,(h.ent i y e).2.1,λp m=>key p ((h.ent i y e).2.2 p m)⟩,λp m=>(fZ m).elim (λm=>h.Ue p (iT _ m)) λm=>⟨.step r m,pos p m⟩,λs' m=>key ((s':Int),0) (h.start s' m)⟩;obtain⟨rfl,rfl⟩:=z;exact⟨r,ok,λp m=>.inr (fC _ m)⟩
structure jI(g:Gr)(d:fy)(ws:aC):Prop where
 len:d.length=g.N
 ent:∀(i:Nat) x,d[i]? =some (some x)->sX g i x
 wait:∀i∈ws,∃x,d[i]? =some (some x)
structure sC(d:fy)(ws:aC)(d':fy)(pR:aC):Prop where
 old:∀(i:Nat) x,d[i]? =some (some x)->d'[i]? =some (some x)
 new:∀(i:Nat) x,d'[i]? =some (some x)->d[i]? =some (some x)\/i∈pR
 sub:∀i∈ws,i∈pR
def sC.refl(d:fy)(ws:aC):sC d ws d ws:=⟨λj j e=>e,λj j e=>.inl e,λj m=>m⟩
def sC.trans{d d' d'':fy}{w w' PV:aC}(a:sC d w d' w')(b:sC d' w' d'' PV):sC d w d'' PV:=
 ⟨λi x e=>b.old i x (a.old i x e),λi x e=>(b.new i x e).elim (λq=>(a.new i x q).elim .inl λm=>.inr (b.sub i m)) .inr,λi m=>b.sub i (a.sub i m)⟩
def sC.at{d d':fy}{w w':aC}(a:sC d w d' w'){j y:Int}(h:qf d j y):qf d' j y:=⟨h.1,a.old _ _ h.2⟩
def jI.reach{g:Gr}{d:fy}{ws:aC}(h:jI g d ws){j y:Int}(r:sX g j y)(h0:0<=j)(f:d[j.toNat]? =some none):
  jI g (d.set j.toNat (some y)) (ws++[j.toNat])/\sC d ws (d.set j.toNat (some y)) (ws++[j.toNat])/\qf (d.set j.toNat (some y)) j y:=by
 have me:=Al (x:=y) f;refine⟨⟨eJ.trans h.len,λi x e=>(set_inv f e).elim (λz=>?_) (h.ent i x),λi m=>(fZ m).elim (λm=>(h.wait i m).imp λx e=>vK f e) λm=>⟨y,cI m▸me⟩⟩,⟨λi x e=>vK f e,λi x e=>(set_inv f e).elim (λz=>.inr (z.1▸fC _ (.head _))) .inl,λi m=>iT _ m⟩,h0,me⟩;obtain⟨rfl,rfl⟩:=z;exact(Int.toNat_of_nonneg h0).symm▸r
def jI.uA{g:Gr}{j y:Int}(r:sX g j y)(f:¬(0<=j/\j<g.N)):Res g none:=λd' c=>by
 have a:=r.at c;exact f ⟨a.1,c.len▸PU a⟩
def jI.two{g:Gr}{d:fy}{ws:aC}(h:jI g d ws){j x y:Int}(r:sX g j x)(h0:0<=j)(f:d[j.toNat]? =some (some y))(ne:y≠x):Res g none:=λd' c=>by
 have r1:=(r.at c).2;have r2:=((h.ent _ _ f).at c).2;exact ne (ar (ar (r2.symm.trans r1)))
def jI.bad{g:Gr}{i:Nat}{x:Int}(r:sX g i x)(f:g.ok i x=false):Res g none:=λd' c=>by exact c8 (f.symm.trans (c.ok _ _ (r.at c).2))
def PW(g:Gr)(d:fy)(ws:aC):Prop:=∀(i:Nat) x,d[i]? =some (some x)->i∈ws\/(g.ok i x=true/\∀p∈g.outs i x,qf d p.1 p.2)
def jI.fin{g:Gr}{d:fy}(h:jI g d [])(dn:PW g d [])(st:∀s∈g.starts,qf d s 0):Res g (some d):=
 ⟨⟨h.len,st,λi x e=>((dn i x e).elim nofun id).1,λi x e=>((dn i x e).elim nofun id).2⟩,h.ent⟩
noncomputable def free(d:fy):Nat:=(d.filter λo=>o.isNone).length
def xI{i:Nat}{x:Int}:∀{d:fy},d[i]? =some none->free (d.set i (some x))+1=free d:=by
 induction i with
 |zero=>
  intro d e
  cases d with
  |nil=>cases e|cons o d=>cases e;rfl
 |succ i ih=>
  intro d e
  cases d with
  |nil=>cases e|cons o d=>
   have ih:=ih (d:=d) e
   cases o with
   |none=>exact ak (·+1) ih|some y=>exact ih
def BX(d:fy):free d<=d.length:=List.length_filter_le ..
end fG
namespace fG
open PySem
noncomputable abbrev k':=ofString
inductive bV where
 |none
 |bool (b:Bool)
 |int (i:Int)
 |str (s:Str)
 |tup (s:Str) (o:bV)
 |lst
def bV.t:bV->Tr|.none=>.val .none|.bool b=>.val (.bool b)|.int i=>.val (fG.int i)|.str s=>.val (fG.str s)|.tup s o=>.tup [.val (fG.str s),o.t]|.lst=>.lst [.val (fG.str (k' "k"))]
noncomputable def bV.whole:bV->Bool|.int _=>true|_=>false
def bV.block:bV->Bool|.none=>true|.str s=>s==k' "pass"|.tup s o=>s==k' "child"&&o.whole|_=>false
noncomputable def iF(t:Tr)(σ:Sg):aw:=some (.ret t σ)
def tB(b:Bool)(σ:Sg):aw:=iF (.val (.bool b)) σ
abbrev F0(n:Nat):Cl:=dW Ak n false
def dF(o:aw)(k:Ko):aw:=(o.bind vA).bind λq=>Mx q k
section
variable{n:Nat}{o:bV}{σ:Sg}{x:Bool}{A B R:aw}
def uC(h1:x=true->A=R)(h2:x=false->B=R):(bif x then A else B)=R:=by
 cases x
 ·exact h2 rfl
 ·exact h1 rfl
def cn{o:aw}{k:Ko}{t:Tr}(e:o=iF t σ)(h:k t σ=R):dF o k=R:=by rw[e];exact h
def mJ{y:Bool}(h:x=true->A=tB y σ):(bif x then A else tB false σ)=tB (x&&y) σ:=by
 cases x
 ·rfl
 ·exact h rfl
def xJ:F0 (n+1) 308 [o.t] σ=tB o.whole σ:=by cases o<;>kernel_rfl
def tK:F0 (n+1) 520 [o.t] σ=tB o.whole σ:=by cases o<;>kernel_rfl
def qg:F0 (n+2) 315 [o.t] σ=tB o.block σ:=by
 cases o with
 |tup s o=>exact(show _=bif s==k' "child"then dF (F0 (n+1) 308 [o.t] σ) iF else tB false σ by kernel_rfl).trans (mJ λh=>cn xJ rfl)|str s=>exact(show _=bif s==k' "pass"then tB true σ else tB false σ by kernel_rfl).trans (uC (λh=>(ak (tB · σ) h).symm) (λh=>(ak (tB · σ) h).symm))|_=>kernel_rfl
def nA:F0 (n+2) 527 [o.t] σ=tB o.block σ:=by
 cases o with
 |tup s o=>exact(show _=bif s==k' "child"then dF (F0 (n+1) 520 [o.t] σ) iF else tB false σ by kernel_rfl).trans (mJ λh=>cn tK rfl)|str s=>exact(show _=bif s==k' "pass"then tB true σ else tB false σ by kernel_rfl).trans (uC (λh=>(ak (tB · σ) h).symm) (λh=>(ak (tB · σ) h).symm))|_=>kernel_rfl
end
set_option genCtorIdx true in
inductive Lt where
 |t|c|p|a|i|f|r|k|b|o|d|s|v
abbrev d6:=List Lt
def Lt.ch:Lt->Str
 |.t=>k' "t"|.c=>k' "c"|.p=>k' "p"|.a=>k' "a"|.i=>k' "i"|.f=>k' "f"|.r=>k' "r"
 |.k=>k' "k"|.b=>k' "b"|.o=>k' "o"|.d=>k' "d"|.s=>k' "s"|.v=>k' "v"
noncomputable def fA(s:Str):aF->Bool|[]=>false|y::ys=>(y==s)||fA s ys
def bV.among(l:aF):bV->Bool|.str s=>fA s l|_=>false
noncomputable def bV.jJ(k:Int):bV->Bool|.int i=>decide (i>=k)|_=>false
noncomputable def bV.isStr:bV->Bool|.str _=>true|_=>false
noncomputable def bV.isBool:bV->Bool|.bool _=>true|_=>false
noncomputable def bV.PX:bV->Bool|.lst=>true|.tup .. =>true|_=>false
noncomputable def bV.PY:bV->Bool|.none=>true|.int i=>i==1|.bool b=>(if b then 1 else 0)==(1:Int)|_=>false
def PZ:aF:=[k' "break",k' "return"]
def Zy:aF:=[k' "ivar",k' "gvar",k' "const",k' "const_of",k' "super",k' "yield",k' "method",k' "method_of"]
def BY:aF:=[k' "call",k' "self",k' "var"]
def bV.sort:bV->Bool|.tup s o=>fA s BY&&o.block|_=>false
def fits:Lt->bV->Bool|.t=>bV.isStr|.c=>bV.jJ 0|.p=>bV.jJ 0|.a=>bV.jJ (-1)|.i=>bV.jJ (-1000000000)|.f=>bV.isBool|.r=>bV.PY|.k=>bV.PX|.b=>bV.block|.o=>bV.among PZ|.d=>bV.among Zy|.s=>bV.sort|.v=>λj=>true
def map_eq{α β:Type}{l:List α}{f g:α->β}(h:l.map f=l.map g){x:α}(m:x∈l):f x=g x:=List.map_inj_left.mp h x m
noncomputable def Zz:d6:=[.t,.c,.p,.a,.i,.f,.r,.k,.o,.d,.v]
def l8(i:Nat)(h:Nat.blt i 11=true){l:Lt}(e:Zz[i]'(bg h)=l):l∈Zz:=e▸List.getElem_mem _
def ZA{P:Lt->Prop}(h:∀l,l∈Zz->P l)(hb:P .b)(hs:P .s)(l:Lt):P l:=by
 cases l with
 |b=>exact hb|s=>exact hs|t=>exact h _ (l8 0 rfl rfl)|c=>exact h _ (l8 1 rfl rfl)|p=>exact h _ (l8 2 rfl rfl)|a=>exact h _ (l8 3 rfl rfl)|i=>exact h _ (l8 4 rfl rfl)|f=>exact h _ (l8 5 rfl rfl)|r=>exact h _ (l8 6 rfl rfl)|k=>exact h _ (l8 7 rfl rfl)|o=>exact h _ (l8 8 rfl rfl)|d=>exact h _ (l8 9 rfl rfl)|v=>exact h _ (l8 10 rfl rfl)
def HD{n:Nat}{σ:Sg}(o:bV):Zz.map (λl=>F0 (n+3) 534 [.val (str l.ch),o.t] σ)=Zz.map λl=>tB (fits l o) σ:=by cases o<;>kernel_rfl
def HE{n:Nat}{σ:Sg}(o:bV):F0 (n+3) 534 [.val (str Lt.s.ch),o.t] σ=tB (fits .s o) σ:=by
 cases o with
 |tup s o=>exact(show _=bif fA s BY then dF (F0 (n+2) 527 [o.t] σ) iF else tB false σ by kernel_rfl).trans (mJ λh=>cn nA rfl)|_=>kernel_rfl
def DI{n:Nat}{σ:Sg}{o:bV}(l:Lt):F0 (n+3) 534 [.val (str l.ch),o.t] σ=tB (fits l o) σ:=
 ZA (P:=λl=>F0 (n+3) 534 [.val (str l.ch),o.t] σ=tB (fits l o) σ) (λl=>map_eq (HD o)) ((show _=dF (F0 (n+2) 527 [o.t] σ) iF by kernel_rfl).trans (cn nA rfl)) (HE o) l
structure Rw where
 op:Str
 a:bV
 b:bV
 c:bV
def Rw.t(r:Rw):Tr:=.lst [.val (str r.op),r.a.t,r.b.t,r.c.t]
def Rw.o(r:Rw):Tr:=.obj 87 [.op,.a,.b,.c,.line] [.val (str r.op),r.a.t,r.b.t,r.c.t,.val (int 1)]
def HF(op:Str):Lt->Str
 |.t=>bif op==k' "text"then k' "t"else k' "n"
 |.o=>k' "s"|.d=>k' "s"|l=>l.ch
def okL(op:Str):Lt->Bool|.o=>op==k' "out"|.d=>op==k' "defined"|.s=>op==k' "send"|_=>true
noncomputable def bV.small:bV->Bool|.int i=>decide (i.natAbs<=1000000)|_=>true
section
variable{n:Nat}{r:Rw}{o:bV}{σ:Sg}
def ltC:List (Str×(bV->Bool)):=[(k' "n",bV.isStr),(k' "t",bV.isStr),(k' "c",bV.jJ 0),(k' "p",bV.jJ 0),(k' "a",bV.jJ (-1)),(k' "i",bV.whole),(k' "f",bV.isBool),(k' "r",bV.PY),(k' "k",bV.PX),(k' "v",λj=>true)]
def M1(o:bV):ltC.map (λe=>F0 (n+4) 329 [r.o,.val (str e.1),o.t] σ)=ltC.map λe=>tB (e.2 o) σ:=by cases o<;>kernel_rfl
def j7(i:Nat)(h:Nat.blt i 10=true){c:Str}{f:bV->Bool}(e:ltC[i]'(bg h)=(c,f)):F0 (n+4) 329 [r.o,.val (str c),o.t] σ=tB (f o) σ:=
 map_eq (M1 o) (x:=(c,f)) (e▸List.getElem_mem _)
def HG{a b c:bV}:F0 (n+3) 322 [Rw.o ⟨k' "out",a,b,c⟩,o.t] σ=tB (fits .o o) σ:=by cases o<;>kernel_rfl
def HH{a b c:bV}:F0 (n+3) 322 [Rw.o ⟨k' "defined",a,b,c⟩,o.t] σ=tB (fits .d o) σ:=by cases o<;>kernel_rfl
def DJ{a b c:bV}:F0 (n+3) 322 [Rw.o ⟨k' "send",a,b,c⟩,o.t] σ=tB (fits .s o) σ:=by
 cases o with
 |tup s o=>exact(show _=bif fA s BY then dF (F0 (n+2) 315 [o.t] σ) iF else tB false σ by kernel_rfl).trans (mJ λh=>cn qg rfl)|_=>kernel_rfl
def HI{f:Bool}(h:F0 (n+3) 322 [r.o,o.t] σ=tB f σ):F0 (n+4) 329 [r.o,.val (str (k' "s")),o.t] σ=tB f σ:=(show _=dF (F0 (n+3) 322 [r.o,o.t] σ) iF by kernel_rfl).trans (cn h rfl)
def HJ{P:Rw->Prop}{s:Str}(e:(r.op==s)=true)(h:∀a b c,P ⟨s,a,b,c⟩):P r:=by
 obtain⟨op,a,b,c⟩:=r;cases eq_of_beq e;exact h a b c
def xK(h:o.small=true):o.whole=fits .i o:=by
 cases o with
 |int i=>
  have:=cf (p:=i.natAbs<=1000000) h;exact(aZ (p:=i>=-1000000000) (Int.neg_le_of_neg_le (Int.le_trans (Int.natAbs_neg i▸Int.le_natAbs) (eU.mpr (aa this aP))))).symm
 |_=>rfl
def Am(l:Lt)(hl:okL r.op l=true)(hs:o.small=true):F0 (n+4) 329 [r.o,.val (str (HF r.op l)),o.t] σ=tB (fits l o) σ:=by
 cases l with
 |t=>
  show F0 (n+4) 329 [r.o,.val (str (bif r.op==k' "text"then k' "t"else k' "n")),o.t] σ=_
  cases r.op==k' "text"with
  |false=>exact j7 0 rfl rfl|true=>exact j7 1 rfl rfl
 |o=>exact HI (HJ (P:=λr=>F0 (n+3) 322 [r.o,o.t] σ=tB (fits .o o) σ) hl λa b c=>HG)|d=>exact HI (HJ (P:=λr=>F0 (n+3) 322 [r.o,o.t] σ=tB (fits .d o) σ) hl λa b c=>HH)|s=>exact HI (HJ (P:=λr=>F0 (n+3) 322 [r.o,o.t] σ=tB (fits .s o) σ) hl λa b c=>DJ)|b=>exact(show _=dF (F0 (n+3) 315 [o.t] σ) iF by kernel_rfl).trans (cn qg rfl)|c=>exact j7 2 rfl rfl|p=>exact j7 3 rfl rfl|a=>exact j7 4 rfl rfl|i=>exact(j7 5 rfl rfl).trans (ak (tB · σ) (xK hs))|f=>exact j7 6 rfl rfl|r=>exact j7 7 rfl rfl|k=>exact j7 8 rfl rfl|v=>exact j7 9 rfl rfl
end
def DL:List (Str×d6×Int×Int):=[
 (k' "push",[.v],0,1),
 (k' "text",[.t],0,1),
 (k' "pop",[],1,0),
 (k' "dup",[],1,2),
 (k' "dup2",[],2,4),
 (k' "swap",[],2,2),
 (k' "self",[],0,1),
 (k' "getl",[.c,.c],0,1),
 (k' "setl",[.c,.c],1,0),
 (k' "geti",[.t],0,1),
 (k' "seti",[.t],1,0),
 (k' "getg",[.t],0,1),
 (k' "setg",[.t],1,0),
 (k' "getc",[.t],0,1),
 (k' "getcin",[.t],1,1),
 (k' "setc",[.t],1,0),
 (k' "append",[],2,1),
 (k' "joinlists",[],2,1),
 (k' "spread",[],1,1),
 (k' "range",[.f],2,1),
 (k' "totext",[],1,1),
 (k' "lambda",[.c],0,1),
 (k' "def",[.t,.c],0,1),
 (k' "sdef",[.t,.c],1,1),
 (k' "module",[.t,.c],0,1),
 (k' "sclass",[.c],1,1),
 (k' "alias",[.t,.t],0,1),
 (k' "undef",[.t],0,1),
 (k' "leave",[],1,0),
 (k' "out",[.o],1,0),
 (k' "again",[],1,0),
 (k' "caught",[],1,1),
 (k' "setcaught",[],1,0),
 (k' "respond",[.t],1,1),
 (k' "islist",[],1,1),
 (k' "istable",[],1,1),
 (k' "listfits",[.c,.f],1,1),
 (k' "listat",[.i],1,1),
 (k' "listpart",[.c,.c],1,1),
 (k' "tablehas",[.v],1,1),
 (k' "tableat",[.v],1,1),
 (k' "tablerest",[.k],1,1),
 (k' "tableonly",[.k],1,1),
 (k' "nomatch",[],1,0),
 (k' "blockgiven",[],0,1),
 (k' "jump",[.p],0,0),
 (k' "jumpif",[.p],1,0),
 (k' "jumpunless",[.p],1,0),
 (k' "jumpnil",[.p],1,1)]
def ZC:List (Str×d6×Int×Int):=[
 (k' "list",[.c],0,1),
 (k' "texts",[.c],0,1),
 (k' "table",[.c],0,1),
 (k' "tuck",[.c],1,2),
 (k' "send",[.t,.a,.s],1,1),
 (k' "super",[.a,.b],0,1),
 (k' "zsuper",[.b],0,1),
 (k' "yield",[.a],0,1),
 (k' "class",[.t,.c,.f],0,1),
 (k' "defined",[.d,.v],0,1),
 (k' "spreadto",[.c,.r,.c],1,0)]
def tab:List (Str×d6×Int×Int):=DL++ZC
def signsOf(ls:d6):Str:=⟨(ls.map λl=>l.ch.cps.toList).flatten.toArray⟩
def acq(e:Str×d6×Int×Int):Tr:=.tup [.val (str (signsOf e.2.1)),.val (int e.2.2.1),.val (int e.2.2.2)]
def tP(x y:Int)(σ:Sg):aw:=iF (.tup [.val (int x),.val (int y)]) σ
noncomputable def gq(i:Int):Int:=bif i==-1 then 1 else i
def bV.jK:bV->Int
 |.str s=>bif s==k' "pass"then 1 else 0
 |_=>0
noncomputable def bV.i0:bV->Int
 |.int i=>i|.bool b=>bif b then 1 else 0
 |_=>0
noncomputable def bV.snd:bV->bV|.tup _ o=>o|_=>.none
noncomputable def bV.vL:bV->Int|.none=>0|_=>1
def An:aF:=[k' "method_of",k' "const_of"]
set_option genCtorIdx true in
inductive Sp where
 |list|texts|table|Ao|send|super|nZ|yield|cls|ik|eO
def Sp.op:Sp->Str
 |.list=>k' "list"|.texts=>k' "texts"|.table=>k' "table"|.Ao=>k' "tuck"|.send=>k' "send"|.super=>k' "super"
 |.nZ=>k' "zsuper"|.yield=>k' "yield"|.cls=>k' "class"|.ik=>k' "defined"|.eO=>k' "spreadto"
def ZD(op:Str):Option Sp:=
 bif op==k' "list"then some .list else bif op==k' "texts"then some .texts else bif op==k' "table"then some .table else bif op==k' "tuck"then some .Ao else
 bif op==k' "send"then some .send else bif op==k' "super"then some .super else bif op==k' "zsuper"then some .nZ else bif op==k' "yield"then some .yield else
 bif op==k' "class"then some .cls else bif op==k' "defined"then some .ik else bif op==k' "spreadto"then some .eO else none
def P0(s:Sp)(a b c:bV):Int×Int:=match s with
 |.list=>(a.i0,1)|.texts=>(a.i0,1)|.table=>(2*a.i0,1)|.Ao=>(1+a.i0,2+a.i0)
 |.send=>(1+gq b.i0+c.snd.jK,1)|.super=>(gq a.i0+b.jK,1)|.nZ=>(a.jK,1)|.yield=>(gq a.i0,1)
 |.cls=>(c.i0,1)|.ik=>(bif a.among An then 1 else 0,1)|.eO=>(1,a.i0+b.vL+c.i0)
def dY(r:Rw):Int×Int:=match ZD r.op with
 |some s=>P0 s r.a r.b r.c|none=>(match tab.lookup r.op with
   |some e=>(e.2.1,e.2.2)
   |none=>(0,0))
def eL(n:Nat)(σ:Sg)(op:Str)(a b c:bV):aw:=F0 (n+2) 446 [.val (str op),a.t,b.t,c.t] σ
def eC(n:Nat)(σ:Sg)(op:Str)(a b c:bV):aw:=F0 (n+3) 298 [Rw.o ⟨op,a,b,c⟩] σ
def jx(op:Str)(a b c:bV)(σ:Sg):aw:=tP (dY ⟨op,a,b,c⟩).1 (dY ⟨op,a,b,c⟩).2 σ
section
variable{n:Nat}{σ:Sg}{a b c:bV}
def M3:DL.map (λe=>eL n σ e.1 a b c)=DL.map λe=>jx e.1 a b c σ:=aO
def M4:DL.map (λe=>eC n σ e.1 a b c)=DL.map λe=>jx e.1 a b c σ:=aO
noncomputable def k01(b:Bool):Int:=bif b then 1 else 0
def sD{x y x' y':Int}(h1:x'=x)(h2:y'=y):tP x' y' σ=tP x y σ:=by rw[h1,h2]
def HK(b:Bool):(if b then(1:Int)else 0)=k01 b:=by cases b<;>rfl
def sE{i x:Int}{f:Int->Int}(h:f 1=x+1/\f i=x+i):(bif i==-1 then tP (f 1) 1 σ else tP (f i) 1 σ)=tP (x+gq i) 1 σ:=by
 unfold gq
 cases i==-1 with
 |true=>exact sD h.1 rfl|false=>exact sD h.2 rfl
noncomputable def Uh:Sp->Int->Int×Int
 |.list,i=>(i+0,1)|.texts,i=>(i+0,1)|.table,i=>(2*i+0,1)|.Ao,i=>(1+i+0,2+i)
 |_,_=>(0,0)
noncomputable def Wa:List Sp:=[.list,.texts,.table,.Ao]
def ZE{i:Int}:Wa.map (λs=>eL n σ s.op (.int i) b c)=Wa.map λs=>tP (Uh s i).1 (Uh s i).2 σ:=aO
noncomputable def M5:Sp->Int->Int×Int
 |.list,i=>(i,1)|.texts,i=>(i,1)|.table,i=>(2*i,1)|.Ao,i=>(i+1,i+2)
 |_,_=>(0,0)
def ZF{i:Int}:Wa.map (λs=>eC n σ s.op (.int i) b c)=Wa.map λs=>tP (M5 s i).1 (M5 s i).2 σ:=aO
def M6{i:Int}:eL n σ Sp.yield.op (.int i) b c=tP (gq i) 1 σ:=
 (show _=bif i==-1 then tP (0+1+0) 1 σ else tP (0+i+0) 1 σ by kernel_rfl).trans ((sE (f:=λi=>0+i+0) ⟨rfl,Int.add_zero _⟩).trans (sD (Int.zero_add _) rfl))
def qh:bV->Int
 |.str s=>if s==k' "pass"then 1 else 0
 |_=>0
def vM(o:bV):qh o=o.jK:=by
 cases o with
 |str s=>exact HK _|_=>rfl
def HL:eL n σ Sp.nZ.op a b c=tP a.jK 1 σ:=by
 have:eL n σ Sp.nZ.op a b c=tP (0+qh a) 1 σ:=by cases a<;>kernel_rfl
 exact this.trans (sD (by rw[Int.zero_add,vM]) rfl)
def M7{i:Int}:eL n σ Sp.super.op (.int i) b c=tP (gq i+b.jK) 1 σ:=by
 have:eL n σ Sp.super.op (.int i) b c=bif i==-1 then tP (0+1+qh b) 1 σ else tP (0+i+qh b) 1 σ:=by cases b<;>kernel_rfl
 exact this.trans ((sE (x:=b.jK) (f:=λi=>0+i+qh b) (by rw[vM,Int.zero_add,Int.zero_add];exact⟨Int.add_comm ..,Int.add_comm ..⟩)).trans (sD (Int.add_comm ..) rfl))
def Ui{i:Int}{s0:Str}{o:bV}:eL n σ Sp.send.op a (.int i) (.tup s0 o)=tP (1+gq i+o.jK) 1 σ:=by
 have:eL n σ Sp.send.op a (.int i) (.tup s0 o)=bif i==-1 then tP (1+1+qh o) 1 σ else tP (1+i+qh o) 1 σ:=by cases o<;>kernel_rfl
 exact this.trans ((sE (x:=1+o.jK) (f:=λi=>1+i+qh o) (by rw[vM];exact⟨Int.add_right_comm ..,Int.add_right_comm ..⟩)).trans (sD (Int.add_right_comm ..) rfl))
def M8{x:Bool}:eL n σ Sp.cls.op a b (.bool x)=tP (bif x then 1 else 0) 1 σ:=by cases x<;>kernel_rfl
def DM{s:Str}:eL n σ Sp.ik.op (.str s) b c=tP (bif fA s An then 1 else 0) 1 σ:=
 (show _=tP ((if fA s An then 1 else 0)+0) 1 σ by kernel_rfl).trans (sD ((Int.add_zero _).trans (HK _)) rfl)
def Ap{i j:Int}:eL n σ Sp.eO.op (.int i) b (.int j)=tP 1 (i+b.vL+j) σ:=by cases b<;>kernel_rfl
def M9(x:Bool):(bif x then iF (.val (int 1)) σ else iF (.val (int 0)) σ)=iF (.val (int (bif x then 1 else 0))) σ:=by cases x<;>rfl
def sF{i:Int}:F0 (n+1) 161 [.val (int i)] σ=iF (.val (int (gq i))) σ:=
 (show _=bif i==-1 then iF (.val (int 1)) σ else iF (.val (int i)) σ by kernel_rfl).trans (by unfold gq;cases i==-1<;>rfl)
def pS(o:bV):F0 (n+1) 168 [o.t] σ=iF (.val (int o.jK)) σ:=by
 cases o with
 |str s=>exact(show _=bif s==k' "pass"then iF (.val (int 1)) σ else iF (.val (int 0)) σ by kernel_rfl).trans (M9 _)|_=>kernel_rfl
def M'(t:Tr)(σ:Sg):aw:=iF (.tup [t,.val (int 1)]) σ
def oZ{o:aw}{x y:Int}(h:o=tP x y σ):dF o iF=tP x y σ:=by rw[h];rfl
def Na{i:Int}:eC n σ Sp.yield.op (.int i) b c=tP (gq i) 1 σ:=(show _=dF (dF (F0 (n+1) 161 [.val (int i)] σ) M') iF by kernel_rfl).trans (oZ (cn sF rfl))
def HM:eC n σ Sp.nZ.op a b c=tP a.jK 1 σ:=(show _=dF (dF (F0 (n+1) 168 [a.t] σ) M') iF by cases a<;>kernel_rfl).trans (oZ (cn (pS a) rfl))
def Nc{i:Int}:eC n σ Sp.super.op (.int i) b c=tP (gq i+b.jK) 1 σ:=
 (show _=dF (dF (F0 (n+1) 161 [.val (int i)] σ) λt τ=>dF (F0 (n+1) 168 [b.t] τ) λu τ=>(mX τ .Add t u).bind λx=>M' x τ) iF by cases b<;>kernel_rfl).trans (oZ (cn sF (cn (pS b) rfl)))
def Uj{i:Int}{s0:Str}{o:bV}:eC n σ Sp.send.op a (.int i) (.tup s0 o)=tP (1+gq i+o.jK) 1 σ:=
 (show _=dF (dF (F0 (n+1) 161 [.val (int i)] σ) λt τ=>(mX τ .Add (.val (int 1)) t).bind λx=>dF (F0 (n+1) 168 [o.t] τ) λu τ=>(mX τ .Add x u).bind λy=>M' y τ) iF by cases o<;>kernel_rfl).trans
  (oZ (cn sF (cn (pS o) rfl)))
def Nd{x:Bool}:eC n σ Sp.cls.op a b (.bool x)=tP (bif x then 1 else 0) 1 σ:=by cases x<;>kernel_rfl
def DN{s:Str}:eC n σ Sp.ik.op (.str s) b c=tP (bif fA s An then 1 else 0) 1 σ:=
 (show _=dF (bif fA s An then tP 1 1 σ else tP 0 1 σ) iF by kernel_rfl).trans (by cases fA s An<;>rfl)
def Aq{i j:Int}:eC n σ Sp.eO.op (.int i) b (.int j)=tP 1 (i+b.vL+j) σ:=by cases b<;>kernel_rfl
end
noncomputable def bV.isNone:bV->Bool|.none=>true|_=>false
def dG:d6->List bV->Bool
 |[],os=>os.all bV.isNone|l::ls,os=>match os with
  |[]=>false|o::os=>fits l o&&dG ls os
def P1:List bV->Bool->(Sg->aw)->Sg->aw
 |[],bad,K,σ=>bif bad then tB false σ else K σ
 |o::os,bad,K,σ=>(oU o.t).bind λb=>bif !b then P1 os true K σ else P1 os bad K σ
def ll(n:Nat):d6->List bV->Bool->(Sg->aw)->Sg->aw
 |[],os,bad,K,σ=>P1 os bad K σ|l::ls,os,bad,K,σ=>match os with
  |[]=>none|o::os=>dF (F0 n 534 [.val (str l.ch),o.t] σ) λt σ=>BD t λb=>bif !b then ll n ls os true K σ else ll n ls os bad K σ
section
variable{n:Nat}{σ:Sg}{K:Sg->aw}{C:bV->Prop}{o:bV}{k:Int}
def xM(o:bV):oU o.t=some o.isNone:=by cases o<;>rfl
def Uk{os:List bV}:∀bad,P1 os bad K σ=bif !bad&&dG [] os then K σ else tB false σ:=by
 induction os with
 |nil=>exact λbad=>by cases bad<;>rfl
 |cons o os ih=>
  intro bad;show(oU o.t).bind (λb=>bif !b then P1 os true K σ else P1 os bad K σ)=bif !bad&&(o.isNone&&dG [] os)then K σ else tB false σ
  rw[xM];show(bif !o.isNone then P1 os true K σ else P1 os bad K σ)=_
  rw[ih,ih];cases o.isNone<;>cases bad<;>rfl
def ZG{ls:d6}:∀{os bad},ls.length<=os.length->ll (n+3) ls os bad K σ=bif !bad&&dG ls os then K σ else tB false σ:=by
 induction ls with
 |nil=>exact λj=>Uk _|cons l ls ih=>
  intro os bad h
  cases os with
  |nil=>exact absurd h (Nat.not_succ_le_zero _)|cons o os=>
   refine cn (DI l) ?_;have h':ls.length<=os.length:=gE h;show(bif !(fits l o)then ll (n+3) ls os true K σ else ll (n+3) ls os bad K σ)=bif !bad&&(fits l o&&dG ls os)then K σ else tB false σ
   rw[ih h',ih h'];cases fits l o<;>cases bad<;>rfl
@[elab_as_elim] def gI(h:o.jJ k=true)(f:∀i,k<=i->C (.int i)):C o:=by
 cases o with
 |int i=>exact f i (cf h)|_=>exact iM h
@[elab_as_elim] def gB(h:o.isBool=true)(f:∀b,C (.bool b)):C o:=by
 cases o with
 |bool b=>exact f b|_=>exact iM h
@[elab_as_elim] def gS{l:aF}(h:o.among l=true)(f:∀s,fA s l=true->C (.str s)):C o:=by
 cases o with
 |str s=>exact f s h|_=>exact iM h
@[elab_as_elim] def gT(h:o.sort=true)(f:∀s o,o.block=true->C (.tup s o)):C o:=by
 cases o with
 |tup s o=>exact f s o (aA h).2|_=>exact iM h
def gW(h:o.whole=true)(f:∀i,C (.int i)):C o:=by
 cases o with
 |int i=>exact f i|_=>exact iM h
def gK(h:o.block=true)(fn:C .none)(fs:∀s,C (.str s))(ft:∀s i,C (.tup s (.int i))):C o:=by
 cases o with
 |none=>exact fn|str s=>exact fs s|tup s o=>exact gW (C:=λo=>C (.tup s o)) (aA h).2 (ft s)|_=>exact iM h
end
def Eff(e:Str×d6×Int×Int):Prop:=∀n σ a b c,dG e.2.1 [a,b,c]=true->eL n σ e.1 a b c=jx e.1 a b c σ/\eC n σ e.1 a b c=jx e.1 a b c σ
def ZH{e:Str×d6×Int×Int}(m:e∈DL):Eff e:=λn σ a b c j=>⟨map_eq M3 m,map_eq M4 m⟩
def gD{l:Lt}{ls:d6}{o:bV}{os:List bV}(h:dG (l::ls) (o::os)=true):fits l o=true/\dG ls os=true:=aA h
def BZ(i:Nat)(h:Nat.blt i 4=true){s:Sp}(e:Wa[i]'(bg h)=s){p:d6×Int×Int}(hp:p.1=[.c])(hr:∀i b c,M5 s i=dY ⟨s.op,.int i,b,c⟩/\Uh s i=M5 s i):Eff (s.op,p):=λn σ a b c h=>by
 have m:s∈Wa:=e▸List.getElem_mem _;have h:dG p.1 [a,b,c]=true:=h;rw[hp]at h;exact gI (C:=λa=>eL n σ s.op a b c=jx s.op a b c σ/\eC n σ s.op a b c=jx s.op a b c σ) (gD h).1 λi j=>⟨(map_eq ZE m).trans (by rw[(hr i b c).2,(hr i b c).1];rfl),(map_eq ZF m).trans (by rw[(hr i b c).1];rfl)⟩
def HN{α:Type}(P:α->Prop):List α->Prop|[]=>True|x::xs=>P x/\HN P xs
def HN.mem{α:Type}{P:α->Prop}{l:List α}{x:α}:HN P l->x∈l->P x:=by
 induction l with
 |nil=>exact λj m=>qP m|cons y l ih=>exact λh m=>(fY m).elim (λz=>z▸h.1) (ih h.2)
def HO{x y:Int}(h:x=y):(x,(1:Int))=(y,1):=by rw[h]
def ZI:HN Eff ZC:=⟨BZ 0 rfl rfl rfl λi b c=>⟨aO,HO (Int.add_zero i)⟩,BZ 1 rfl rfl rfl λi b c=>⟨aO,HO (Int.add_zero i)⟩,BZ 2 rfl rfl rfl λi b c=>⟨aO,HO (Int.add_zero _)⟩,
 BZ 3 rfl rfl rfl λi b c=>⟨show(i+1,i+2)=(1+i,2+i) by rw[Int.add_comm i,Int.add_comm i],show(1+i+0,2+i)=(i+1,i+2) by rw[Int.add_zero,Int.add_comm i,Int.add_comm i]⟩,
 λn σ a b c h=>gI (C:=λb=>eL n σ Sp.send.op a b c=jx Sp.send.op a b c σ/\eC n σ Sp.send.op a b c=jx Sp.send.op a b c σ) (gD (gD h).2).1 λi J=>gT (C:=λc=>eL n σ Sp.send.op a (.int i) c=jx Sp.send.op a (.int i) c σ/\eC n σ Sp.send.op a (.int i) c=jx Sp.send.op a (.int i) c σ) (gD (gD (gD h).2).2).1 λs o J=>⟨Ui,Uj⟩,
 λn σ a b c h=>gI (C:=λa=>eL n σ Sp.super.op a b c=jx Sp.super.op a b c σ/\eC n σ Sp.super.op a b c=jx Sp.super.op a b c σ) (gD h).1 λi J=>⟨M7,Nc⟩,
 λn σ a b c h=>⟨HL,HM⟩,
 λn σ a b c h=>gI (C:=λa=>eL n σ Sp.yield.op a b c=jx Sp.yield.op a b c σ/\eC n σ Sp.yield.op a b c=jx Sp.yield.op a b c σ) (gD h).1 λi J=>⟨M6,Na⟩,
 λn σ a b c h=>gB (C:=λc=>eL n σ Sp.cls.op a b c=jx Sp.cls.op a b c σ/\eC n σ Sp.cls.op a b c=jx Sp.cls.op a b c σ) (gD (gD (gD h).2).2).1 λx=>⟨M8,Nd⟩,
 λn σ a b c h=>gS (C:=λa=>eL n σ Sp.ik.op a b c=jx Sp.ik.op a b c σ/\eC n σ Sp.ik.op a b c=jx Sp.ik.op a b c σ) (gD h).1 λs J=>⟨DM,DN⟩,
 λn σ a b c h=>gI (C:=λa=>eL n σ Sp.eO.op a b c=jx Sp.eO.op a b c σ/\eC n σ Sp.eO.op a b c=jx Sp.eO.op a b c σ) (gD h).1 λi J=>gI (C:=λc=>eL n σ Sp.eO.op (.int i) b c=jx Sp.eO.op (.int i) b c σ/\eC n σ Sp.eO.op (.int i) b c=jx Sp.eO.op (.int i) b c σ) (gD (gD (gD h).2).2).1 λj J=>⟨Ap,Aq⟩,trivial⟩
def ZJ{e:Str×d6×Int×Int}(m:e∈tab):Eff e:=(fZ m).elim ZH (HN.mem ZI)
def d7(r:Rw):Bool:=(tab.lookup r.op).elim false λe=>dG e.1 [r.a,r.b,r.c]
def kA{α β:Type}[BEq α][LawfulBEq α]{l:List (α×β)}{a:α}{b:β}(e:l.lookup a=some b):(a,b)∈l:=by
 obtain⟨x,y,q,_⟩:=List.lookup_eq_some_iff.mp e;rw[q];exact fC x (.head y)
def mK{r:Rw}{C:Prop}(h:d7 r=true)(k:∀e,tab.lookup r.op=some e->(r.op,e)∈tab->dG e.1 [r.a,r.b,r.c]=true->C):C:=by
 revert h;unfold d7
 cases z:tab.lookup r.op with
 |none=>exact λe=>iM e|some e=>exact λh=>k e z (kA z) h
def Nf{r:Rw}(h:d7 r=true)(n:Nat)(σ:Sg):F0 (n+2) 446 [.val (str r.op),r.a.t,r.b.t,r.c.t] σ=tP (dY r).1 (dY r).2 σ:=mK h λe z m f=>(ZJ m n σ r.a r.b r.c f).1
def HP{r:Rw}(h:d7 r=true)(n:Nat)(σ:Sg):F0 (n+3) 298 [r.o] σ=tP (dY r).1 (dY r).2 σ:=mK h λe z m f=>(ZJ m n σ r.a r.b r.c f).2
structure Ct where
 sort:Str
 first:Int
 last:Int
 target:Int
 depth:Int
abbrev e9:=List Ct
structure Cd where
 kind:Str
 rows:List Rw
 cats:e9
 starts:aC
abbrev iC:=List Cd
def Ct.t(c:Ct):Tr:=.lst [.val (str c.sort),.val (int c.first),.val (int c.last),.val (int c.target),.val (int c.depth)]
def Ct.o(c:Ct):Tr:=.obj 115 [.sort,.first,.last,.target,.depth] [.val (str c.sort),.val (int c.first),.val (int c.last),.val (int c.target),.val (int c.depth)]
def startT(ss:aC):Tr:=.lst (ss.map λs:Nat=>.val (int s))
def Cd.t(c:Cd)(kids:ah):Tr:=.lst [.val (str c.kind),.val (int 2),.lst (c.rows.map Rw.t),.lst (c.cats.map Ct.t),.lst kids,startT c.starts]
def Cd.o(c:Cd)(kids:ah):Tr:=.obj 150 [.kind,.name,.params,.slots,.rows,.hY,.children,.starts,.number]
 [.val (str c.kind),.val (str (k' "c")),.val .none,.lst [.txt 21,.txt 21],.lst (c.rows.map Rw.o),.lst (c.cats.map Ct.o),.lst kids,startT c.starts,.val .none]
def Cd.t0(c:Cd):Tr:=c.t []
def Cd.o0(c:Cd):Tr:=c.o []
def cx(n:Nat):Tr:=.lst (List.replicate n (.val (int 2)))
def fM:aF:=[k' "jump",k' "jumpif",k' "jumpunless",k' "jumpnil"]
def sG:aF:=[k' "getl",k' "setl"]
def cG:Str:=k' "block"
set_option genCtorIdx true in
inductive Kl where
 |u|j|s|a|b|sn|su|zs
noncomputable def Kl.n:Kl->Nat|.u=>0|.j=>1|.s=>2|.a=>3|.b=>4|.sn=>5|.su=>6|.zs=>7
def mZ(op:Str):Kl:=bif fA op fM then .j else bif fA op sG then .s else bif fA op [k' "lambda",k' "sclass"]then .a else bif fA op [k' "def",k' "sdef",k' "class",k' "module"]then .b else
 bif k' "send"==op then .sn else bif k' "super"==op then .su else bif k' "zsuper"==op then .zs else .u
def kdOf(op:Str):Str:=bif k' "lambda"==op then cG else bif fA op [k' "def",k' "sdef"]then k' "method"else k' "class"
noncomputable def bV.under(k:Int):bV->Bool|.int i=>decide (i<k)|_=>false
noncomputable def xN(kinds:aF)(i:Int)(kd:Str):Bool:=decide (0<=i)&&(kinds[i.toNat]?).elim false (·==kd)
def xO(kinds:aF)(kd:Str):bV->Bool|.int i=>xN kinds i kd|_=>false
def nB(kinds:aF):bV->Bool|.tup _ o=>xO kinds cG o|_=>true
def Rw.kl(r:Rw):Kl:=mZ r.op
def HQ(N sN:Nat)(kinds:aF)(r:Rw)(c:Kl):Bool:=match c with|.u=>true|.j=>r.a.under N|.s=>r.a.under sN&&r.b.under 2|.a=>xO kinds (kdOf r.op) r.a|.b=>xO kinds (kdOf r.op) r.b|.sn=>nB kinds r.c.snd|.su=>nB kinds r.b|.zs=>nB kinds r.a
def restOk(N sN:Nat)(kinds:aF)(r:Rw):Bool:=HQ N sN kinds r r.kl
def eX(N sN:Nat)(kinds:aF)(r:Rw):Bool:=d7 r&&restOk N sN kinds r
def cH(c:Kl):List (Str×d6×Int×Int):=tab.filter λe=>(mZ e.1).n==c.n
section
variable{n:Nat}{σ:Sg}{a b c:bV}{plain seen:Tr}{cd:Cd}{kids:iC}{sN:Nat}{i j:Int}{kd:Str}
def jL(n:Nat)(plain seen:Tr)(op:Str)(a b c:bV)(ls:d6)(σ:Sg):aw:=
 (MP (F0 n) (dW Ak n true) false (tl 3 jX)).s [some plain,some seen,some (Rw.t ⟨op,a,b,c⟩),some (.val (str (signsOf ls))),some (.lst [a.t,b.t,c.t]),none,none,none] σ doneK
def Ar:tab.map (λe=>F0 (n+2) 546 [plain,seen,Rw.t ⟨e.1,a,b,c⟩] σ)=tab.map λe=>ll (n+1) e.2.1 [a,b,c] false (jL (n+1) plain seen e.1 a b c e.2.1) σ:=aO
noncomputable def ifB(o:fB)(x y:aw):aw:=o.bind λb=>bif b then x else y
def Ng(kids:ah)(i:Int)(kd:Str)(σ:Sg):aw:=
 bif decide ((0:Int)<=i)then(bif !(decide (i<(kids.length:Int)))then tB false σ else
  (fq σ (.lst kids) (.val (int i))).bind λx=>(fq σ x (.val (int 0))).bind λy=>ifB (jw σ .NotEq y (.val (str kd))) (tB false σ) (tB true σ))else tB false σ
def HR(sN:Nat)(i j:Int)(σ:Sg):aw:=
 bif decide (i<((List.replicate sN (Tr.val (int 2))).length:Int))then((fq σ (cx sN) (.val (int i))).bind λx=>(jw σ .Lt (.val (int j)) x).bind λb=>bif !b then tB false σ else tB true σ)else tB false σ
def HS(N:Nat)(i:Int)(σ:Sg):aw:=bif decide (i>=(N:Int))then tB false σ else tB true σ
def Ul:(cH .u).map (λe=>jL (n+1) (cd.t (kids.map Cd.t0)) (cx sN) e.1 a b c e.2.1 σ)=(cH .u).map λe=>tB true σ:=aO
def Um:(cH .j).map (λe=>jL (n+1) (cd.t (kids.map Cd.t0)) (cx sN) e.1 (.int i) b c e.2.1 σ)=(cH .j).map λe=>HS (cd.rows.map Rw.t).length i σ:=aO
def Un:(cH .s).map (λe=>jL (n+1) (cd.t (kids.map Cd.t0)) (cx sN) e.1 (.int i) (.int j) c e.2.1 σ)=(cH .s).map λe=>HR sN i j σ:=aO
def Uo:(cH .a).map (λe=>jL (n+1) (cd.t (kids.map Cd.t0)) (cx sN) e.1 (.int i) b c e.2.1 σ)=(cH .a).map λe=>Ng (kids.map Cd.t0) i (kdOf e.1) σ:=aO
def Uq:(cH .b).map (λe=>jL (n+1) (cd.t (kids.map Cd.t0)) (cx sN) e.1 a (.int i) c e.2.1 σ)=(cH .b).map λe=>Ng (kids.map Cd.t0) i (kdOf e.1) σ:=aO
def xP(kids:ah)(σ:Sg):bV->aw
 |.tup _ o=>match o with
  |.int i=>Ng kids i cG σ|_=>none
 |_=>tB true σ
def Nh{s:Str}{o:bV}(h:o.block=true):(cH .sn).map (λe=>jL (n+1) (cd.t (kids.map Cd.t0)) (cx sN) e.1 a b (.tup s o) e.2.1 σ)=(cH .sn).map λe=>xP (kids.map Cd.t0) σ o:=
 gK (C:=λo=>(cH .sn).map (λe=>jL (n+1) (cd.t (kids.map Cd.t0)) (cx sN) e.1 a b (.tup s o) e.2.1 σ)=(cH .sn).map λe=>xP (kids.map Cd.t0) σ o) h (aO) (λj=>by kernel_rfl) λj j=>by kernel_rfl
def Ni(h:b.block=true):(cH .su).map (λe=>jL (n+1) (cd.t (kids.map Cd.t0)) (cx sN) e.1 a b c e.2.1 σ)=(cH .su).map λe=>xP (kids.map Cd.t0) σ b:=
 gK (C:=λb=>(cH .su).map (λe=>jL (n+1) (cd.t (kids.map Cd.t0)) (cx sN) e.1 a b c e.2.1 σ)=(cH .su).map λe=>xP (kids.map Cd.t0) σ b) h (aO) (λj=>by kernel_rfl) λj j=>by kernel_rfl
def Nj(h:a.block=true):(cH .zs).map (λe=>jL (n+1) (cd.t (kids.map Cd.t0)) (cx sN) e.1 a b c e.2.1 σ)=(cH .zs).map λe=>xP (kids.map Cd.t0) σ a:=
 gK (C:=λa=>(cH .zs).map (λe=>jL (n+1) (cd.t (kids.map Cd.t0)) (cx sN) e.1 a b c e.2.1 σ)=(cH .zs).map λe=>xP (kids.map Cd.t0) σ a) h (aO) (λj=>by kernel_rfl) λj j=>by kernel_rfl
def P2:(cH .j).map (λe=>e.2.1)=(cH .j).map λJ=>[Lt.p]:=aO
def ZK:(cH .s).map (λe=>e.2.1)=(cH .s).map λj=>[Lt.c,Lt.c]:=aO
def ZL:(cH .a).map (λe=>e.2.1)=(cH .a).map λj=>[Lt.c]:=aO
def ZM:(cH .b).map (λe=>e.2.1.take 2)=(cH .b).map λj=>[Lt.t,Lt.c]:=aO
def Ur:(cH .sn).map (λe=>e.2.1)=(cH .sn).map λj=>[Lt.t,Lt.a,Lt.s]:=aO
def Us:(cH .su).map (λe=>e.2.1)=(cH .su).map λj=>[Lt.a,Lt.b]:=aO
def Ut:(cH .zs).map (λe=>e.2.1)=(cH .zs).map λj=>[Lt.b]:=aO
def m7{e:Str×d6×Int×Int}{k:Kl}(m:e∈tab)(h:mZ e.1=k):e∈cH k:=List.mem_filter.mpr ⟨m,by rw[h];exact cW _⟩
def idx_map{α:Type}{xs:List α}{f:α->Tr}{s:Int}{x:α}(h0:0<=s)(e:xs[s.toNat]? =some x):fq σ (.lst (xs.map f)) (.val (int s))=some (f x):=by
 have lt:=(dO e).1;show(place (xs.map f).length s).bind (λj=>(xs.map f)[j]?)=_
 have hp:place (xs.map f).length s=some s.toNat:=by unfold place;rw[av h0,au,av (by lia)]
 rw[hp];show(xs.map f)[s.toNat]? =_
 rw[cy,e];rfl
def j8{x:Bool}{A B:aw}:(bif !x then A else B)=bif x then B else A:=by cases x<;>rfl
def HT{α:Type}{xs:List α}{f:α->Tr}{g:α->Str}{i:Int}{kd:Str}{F:Tr->aw}{x y:aw}(h:∀a,F (f a)=bif g a==kd then y else x):
  (bif decide ((0:Int)<=i)then(bif !(decide (i<((xs.map f).length:Int)))then x else(fq σ (.lst (xs.map f)) (.val (int i))).bind F)else x)=bif xN (xs.map g) i kd then y else x:=by
 unfold xN;rw[au];by_cases h0:0<=i
 ·rw[aZ h0]
  cases e:xs[i.toNat]? with
  |none=>
   have:¬i<xs.length:=by have:=List.getElem?_eq_none_iff.mp e;lia
   rw[b9 this,cy,e];rfl
  |some a=>
   have:i<xs.length:=by have:=(dO e).1;lia
   rw[aZ this,idx_map h0 e,cy,e];exact h a
 ·rw[b9 h0];rfl
def HU{x:Bool}:(bif x then tB true σ else tB false σ)=tB x σ:=by cases x<;>rfl
def vN:Ng (kids.map Cd.t0) i kd σ=tB (xN (kids.map Cd.kind) i kd) σ:=
 (HT (f:=Cd.t0) (g:=Cd.kind) (kd:=kd) (x:=tB false σ) (y:=tB true σ) (F:=λx=>(fq σ x (.val (int 0))).bind λy=>ifB (jw σ .NotEq y (.val (str kd))) (tB false σ) (tB true σ)) λa=>show(bif !(a.kind==kd)then tB false σ else tB true σ)=_ from j8).trans HU
def HV(hi:0<=i):HR sN i j σ=tB ((bV.int i).under sN&&(bV.int j).under 2) σ:=by
 show _=tB (decide (i<sN)&&decide (j<2)) σ
 unfold HR;rw[List.length_replicate];by_cases h2:i<sN
 ·have:=idx_map (σ:=σ) (xs:=List.replicate sN ()) (f:=λJ=>.val (int 2)) (x:=()) hi (by rw[List.getElem?_replicate,av (by lia)]);rw[List.map_replicate]at this;rw[aZ h2,show fq σ (cx sN) (.val (int i))=some (.val (int 2))from this];exact(show _=bif !(decide (j<2))then tB false σ else tB true σ from rfl).trans (j8.trans HU)
 ·rw[b9 h2];rfl
def HX:HS (cd.rows.map Rw.t).length i σ=tB ((bV.int i).under cd.rows.length) σ:=by
 show _=tB (decide (i<(cd.rows.length:Int))) σ
 unfold HS;rw[au];by_cases h:i<(cd.rows.length:Int)
 ·rw[aZ h,b9 (by lia)];rfl
 ·rw[b9 h,aZ (by lia)];rfl
def vO{o:bV}(h:o.block=true):xP (kids.map Cd.t0) σ o=tB (nB (kids.map Cd.kind) o) σ:=gK (C:=λo=>xP (kids.map Cd.t0) σ o=tB (nB (kids.map Cd.kind) o) σ) h rfl (λj=>rfl) λs i=>vN
def HY{ls:d6}(l:ls.take 2=[.t,.c])(f:dG ls [a,b,c]=true):fits .c b=true:=by
 cases ls with
 |nil=>cases l|cons x xs=>cases xs with
  |nil=>cases l|cons y ys=>cases l;exact(gD (gD f).2).1
def B0{P:bV->bV->bV->Kl->Prop}{op:Str}{e:d6×Int×Int}(m:(op,e)∈tab)(f:dG e.1 [a,b,c]=true)
  (hu:(op,e)∈cH .u->P a b c .u) (hj:∀i,0<=i->(op,e)∈cH .j->P (.int i) b c .j) (hs:∀i j,0<=i->0<=j->(op,e)∈cH .s->P (.int i) (.int j) c .s) (ha:∀i,(op,e)∈cH .a->P (.int i) b c .a) (hb:∀i,(op,e)∈cH .b->P a (.int i) c .b)
  (hn:∀s o,o.block=true->(op,e)∈cH .sn->P a b (.tup s o) .sn) (hp:b.block=true->(op,e)∈cH .su->P a b c .su) (hz:a.block=true->(op,e)∈cH .zs->P a b c .zs):P a b c (mZ op):=by
 cases h:mZ op with
 |u=>exact hu (m7 m h)|j=>
  rw[map_eq P2 (m7 m h)]at f;exact gI (C:=λa=>P a b c .j) (gD f).1 λi l=>hj i l (m7 m h)
 |s=>
  rw[map_eq ZK (m7 m h)]at f;exact gI (C:=λa=>P a b c .s) (gD f).1 λi l=>gI (C:=λb=>P (.int i) b c .s) (gD (gD f).2).1 λj l'=>hs i j l l' (m7 m h)
 |a=>
  rw[map_eq ZL (m7 m h)]at f;exact gI (C:=λa=>P a b c .a) (gD f).1 λi J=>ha i (m7 m h)
 |b=>
  have:fits .c b=true:=HY (map_eq ZM (m7 m h)) f;exact gI (C:=λb=>P a b c .b) this λi J=>hb i (m7 m h)
 |sn=>
  rw[map_eq Ur (m7 m h)]at f;exact gT (C:=λc=>P a b c .sn) (gD (gD (gD f).2).2).1 λs o l=>hn s o l (m7 m h)
 |su=>
  rw[map_eq Us (m7 m h)]at f;exact hp (gD (gD f).2).1 (m7 m h)
 |zs=>
  rw[map_eq Ut (m7 m h)]at f;exact hz (gD f).1 (m7 m h)
def rests{op:Str}{e:d6×Int×Int}(m:(op,e)∈tab)(f:dG e.1 [a,b,c]=true):jL (n+1) (cd.t (kids.map Cd.t0)) (cx sN) op a b c e.1 σ=tB (restOk cd.rows.length sN (kids.map Cd.kind) ⟨op,a,b,c⟩) σ:=
 B0 (P:=λa b c k=>jL (n+1) (cd.t (kids.map Cd.t0)) (cx sN) op a b c e.1 σ=tB (HQ cd.rows.length sN (kids.map Cd.kind) ⟨op,a,b,c⟩ k) σ) m f (map_eq Ul) (λi J m=>(map_eq Um m).trans HX) (λi j l J m=>(map_eq Un m).trans (HV l))
  (λi m=>(map_eq Uo m).trans vN) (λi m=>(map_eq Uq m).trans vN) (λs o l m=>(map_eq (Nh l) m).trans (vO l)) (λl m=>(map_eq (Ni l) m).trans (vO l)) λl m=>(map_eq (Nj l) m).trans (vO l)
end
def DO{β:Type}{f:Str×β->Tr}{s:Str}{l:List (Str×β)}:((l.map (·.1)).zip (l.map f)).lookup s=(l.lookup s).map λb=>f (s,b):=by
 induction l with
 |nil=>rfl|cons p l ih=>
  show(match s==p.1 with|true=>some (f p)|false=>((l.map (·.1)).zip (l.map f)).lookup s)=(match s==p.1 with|true=>some p.2|false=>l.lookup s).map λb=>f (s,b)
  cases e:s==p.1 with
  |true=>rw[eq_of_beq e];rfl|false=>exact ih
def uD{β:Type}{f:Str×β->Tr}{s:Str}{l:List (Str×β)}:(((l.map (·.1)).zip (l.map f)).lookup s).isSome=(l.lookup s).isSome:=by rw[DO,Option.isSome_map]
section
variable{n:Nat}{σ:Sg}{a b c:bV}{cd:Cd}{kids:iC}{sN:Nat}{op:Str}{r:Rw}
def dy(n:Nat)(s:S):Sv:=(MP (F0 n) (dW Ak n true) false s).s
def B2{e:Str×d6×Int×Int}(h:e∈tab):e.2.1.length<=3:=by
 have h3:(tab.all λe=>Nat.ble e.2.1.length 3)=true:=aO;exact bg (bQ h3 e h)
def As{plain seen a b c:Tr}(h:tab.lookup op=none):F0 (n+2) 546 [plain,seen,.lst [.val (str op),a,b,c]] σ=tB false σ:=by
 have e:F0 (n+2) 546 [plain,seen,.lst [.val (str op),a,b,c]] σ=bif !(((tab.map (·.1)).zip (tab.map acq)).lookup op).isSome then tB false σ else dy (n+1) (tl 1 jX) [some plain,some seen,some (.lst [.val (str op),a,b,c]),none,none,none,none,none] σ doneK:=aO
 rw[e,uD,h];rfl
def Au:F0 (n+5) 546 [cd.t (kids.map Cd.t0),cx sN,r.t] σ=tB (eX cd.rows.length sN (kids.map Cd.kind) r) σ:=by
 unfold eX d7
 cases h:tab.lookup r.op with
 |none=>exact As h|some e=>
  have m:=kA h;refine(map_eq Ar m).trans ((ZG (B2 m)).trans ?_);show(bif dG e.1 [r.a,r.b,r.c]then _ else _)=tB (dG e.1 [r.a,r.b,r.c]&&_) σ
  cases hf:dG e.1 [r.a,r.b,r.c]with
  |false=>rfl|true=>exact rests m hf
end
def fE(cd:Cd)(kids seen:ah)(d w:Tr):Tr:=.obj 407 [.code,.seen,.gF,.waiting] [cd.o kids,.lst seen,d,w]
noncomputable def dp:aw:=some .bad
def lr:List bV->Bool->(Sg->aw)->Sg->aw
 |[],bad,K,σ=>bif bad then dp else K σ
 |o::os,bad,K,σ=>((oU o.t).map (!·)).bind λb=>bif b then lr os true K σ else lr os bad K σ
def lc(n:Nat)(r:Rw):d6->List bV->(Sg->aw)->Sg->aw
 |[],os,K,σ=>lr os false K σ|l::ls,os,K,σ=>match os with
  |[]=>none|o::os=>dF (F0 n 329 [r.o,.val (str (HF r.op l)),o.t] σ) λt σ=>BD t λb=>bif !b then dp else lc n r ls os K σ
noncomputable def m8:S->S|.iH _ _ _ b=>b|.iG _ b=>b|.D7 _ a _=>a|s=>s
def aU(n:Nat)(s:S):S:=match tl n s with|.cons a _=>a|s=>s
def Nk:S:=m8 (aU 1 aM)
def qz(σ:Sg):aw:=iF (.val .none) σ
def Nl:cC:=(nU.lookup 239).elim [] λo=>(dictOf (some o)).getD []
section
variable{n:Nat}{σ:Sg}{a b c:bV}{cd:Cd}{op:Str}{r:Rw}{seen kT:ah}{d w:Tr}{i j:Int}{K:Sg->aw}
def B3(N:Nat)(a:bV)(σ:Sg):aw:=(jw σ .GtE a.t (.val (int N))).bind λb=>bif b then dp else qz σ
def kC(op:Str)(a:bV)(N:Nat)(σ:Sg):aw:=bif fA op fM then B3 N a σ else qz σ
def DP:tab.map (λe=>F0 (n+4) 369 [fE cd kT seen d w,.gY,Rw.o ⟨e.1,a,b,c⟩] σ)=tab.map λe=>lc (n+3) ⟨e.1,a,b,c⟩ e.2.1 [a,b,c] (kC e.1 a (cd.rows.map Rw.o).length) σ:=aO
def DQ(h:tab.lookup r.op=none):F0 (n+3) 369 [fE cd kT seen d w,.gY,r.o] σ=dp:=by
 have e:F0 (n+3) 369 [fE cd kT seen d w,.gY,r.o] σ=bif !(((Nl.map (·.1)).zip (Nl.map λe=>BB e.2)).lookup r.op).isSome then dp else dy (n+2) (tl 1 iy) [some (fE cd kT seen d w),some .gY,some r.o,none,none,none,none,none] σ doneK:=aO
 have k:(Nl.all λe=>(tab.lookup e.1).isSome)=true:=aO;have:Nl.lookup r.op=none:=is_none λy z=>by
  have:=bQ k _ (kA z);rw[h]at this;exact iM this
 rw[e,uD,this];rfl
def ZN{os:List bV}:∀bad,lr os bad K σ=bif !bad&&dG [] os then K σ else dp:=by
 induction os with
 |nil=>exact λbad=>by cases bad<;>rfl
 |cons o os ih=>
  intro bad;show((oU o.t).map (!·)).bind (λb=>bif b then lr os true K σ else lr os bad K σ)=bif !bad&&(o.isNone&&dG [] os)then K σ else dp
  rw[xM];show(bif !o.isNone then lr os true K σ else lr os bad K σ)=_
  rw[ih,ih];cases o.isNone<;>cases bad<;>rfl
def ZO{ls:d6}:∀{os},ls.length<=os.length->ls.all (okL r.op)=true->os.all bV.small=true->lc (n+4) r ls os K σ=bif dG ls os then K σ else dp:=by
 induction ls with
 |nil=>exact λj j j=>ZN false|cons l ls ih=>
  intro os h h1 h2
  cases os with
  |nil=>exact absurd h (Nat.not_succ_le_zero _)|cons o os=>
   refine cn (Am l (aA h1).1 (aA h2).1) ?_;show(bif !(fits l o)then dp else lc (n+4) r ls os K σ)=bif(fits l o&&dG ls os)then K σ else dp
   rw[ih (gE h) (aA h1).2 (aA h2).2];cases fits l o<;>rfl
def Rw.small(r:Rw):Bool:=[r.a,r.b,r.c].all bV.small
def Nm{e:Str×d6×Int×Int}(h:e∈tab):e.2.1.all (okL e.1)=true:=by
 have h3:(tab.all λe=>e.2.1.all (okL e.1))=true:=aO;exact bQ h3 e h
def sH(N:Nat)(r:Rw)(k:Kl):Bool:=match k with|.j=>r.a.under N|_=>true
def ZP:tab.map (λe=>kC e.1 a (cd.rows.map Rw.o).length σ)=tab.map λe=>match mZ e.1 with|.j=>B3 (cd.rows.map Rw.o).length a σ|_=>qz σ:=aO
def HZ:B3 (cd.rows.map Rw.o).length (.int i) σ=bif(bV.int i).under cd.rows.length then qz σ else dp:=by
 show(bif decide (i>=((cd.rows.map Rw.o).length:Int))then dp else qz σ)=bif decide (i<(cd.rows.length:Int))then qz σ else dp
 rw[au];by_cases h:i<(cd.rows.length:Int)
 ·rw[aZ h,b9 (by lia)];rfl
 ·rw[b9 h,aZ (by lia)];rfl
def Nn(hs:r.small=true):F0 (n+5) 369 [fE cd kT seen d w,.gY,r.o] σ=bif d7 r&&sH cd.rows.length r r.kl then qz σ else dp:=by
 unfold d7
 cases h:tab.lookup r.op with
 |none=>exact DQ h|some e=>
  have m:=kA h;refine(map_eq DP m).trans ((ZO (B2 m) (Nm m) hs).trans ?_);show(bif dG e.1 [r.a,r.b,r.c]then _ else _)=bif dG e.1 [r.a,r.b,r.c]&&_ then _ else _
  cases hf:dG e.1 [r.a,r.b,r.c]with
  |false=>rfl|true=>exact(map_eq ZP m).trans (B0 (P:=λa b c k=>(match k with|.j=>B3 (cd.rows.map Rw.o).length a σ|_=>qz σ)=bif sH cd.rows.length ⟨r.op,a,b,c⟩ k then qz σ else dp) m hf (λJ=>rfl) (λi J J=>HZ) (λJ J J J J=>rfl) (λJ J=>rfl) (λJ J=>rfl) (λJ J J J=>rfl) (λJ J=>rfl) λJ J=>rfl)
end
section
variable{n:Nat}{σ:Sg}{a b c:bV}{cd:Cd}{kids:iC}{op:Str}{r:Rw}{seen kT:ah}{d w:Tr}{i j:Int}{kd:Str}{sn:List (Cd×ah)}
def m9(b:Bool)(σ:Sg):aw:=bif b then qz σ else dp
def kB(p:Cd×ah):Tr:=p.1.o p.2
def H3(seen:ah)(i j:Int)(σ:Sg):aw:=bif decide (i>=(seen.length:Int))then dp else(fq σ (.lst seen) (.val (int i))).bind λx=>(qd x .slots).bind λy=>(Tf σ y).bind λz=>(jw σ .GtE (.val (int j)) z).bind λb=>bif b then dp else qz σ
def H4(hi:0<=i):H3 (sn.map kB) i j σ=m9 ((bV.int i).under sn.length&&(bV.int j).under 2) σ:=by
 show _=bif decide (i<(sn.length:Int))&&decide (j<2)then qz σ else dp
 unfold H3;rw[au];by_cases h2:i<(sn.length:Int)
 ·have l:i.toNat<sn.length:=(Int.toNat_lt hi).mpr h2;rw[aZ h2,b9 (p:=i>=(sn.length:Int)) (Int.not_le.mpr h2),idx_map (f:=kB) hi (bN l)];show(bif decide (j>=2)then dp else qz σ)=bif decide (j<2)then qz σ else dp
  by_cases h:j<2
  ·rw[aZ h,b9 (by lia)];rfl
  ·rw[b9 h,aZ (by lia)];rfl
 ·rw[b9 h2,aZ (p:=i>=(sn.length:Int)) (by lia)];rfl
def Np(kids:ah)(i:Int)(kd:Str)(σ:Sg):aw:=
 bif decide ((0:Int)<=i)then(bif !(decide (i<(kids.length:Int)))then dp else
  (fq σ (.lst kids) (.val (int i))).bind λx=>(qd x .kind).bind λy=>ifB (jw σ .NotEq y (.val (str kd))) dp (qz σ))else dp
def vP:Np (kids.map Cd.o0) i kd σ=m9 (xN (kids.map Cd.kind) i kd) σ:=
 HT (f:=Cd.o0) (g:=Cd.kind) (kd:=kd) (x:=dp) (y:=qz σ) (F:=λx=>(qd x .kind).bind λy=>ifB (jw σ .NotEq y (.val (str kd))) dp (qz σ)) λa=>show(bif !(a.kind==kd)then dp else qz σ)=_ from j8
def xQ(kids:ah)(σ:Sg):bV->aw
 |.tup _ o=>match o with
  |.int i=>Np kids i cG σ|_=>none
 |_=>qz σ
def vQ{o:bV}(h:o.block=true):xQ (kids.map Cd.o0) σ o=m9 (nB (kids.map Cd.kind) o) σ:=gK (C:=λo=>xQ (kids.map Cd.o0) σ o=m9 (nB (kids.map Cd.kind) o) σ) h rfl (λj=>rfl) λs i=>vP
def DR(n:Nat)(cd:Cd)(kids:iC)(seen:ah)(d w:Tr)(op:Str)(a b c:bV)(σ:Sg):aw:=F0 (n+4) 383 [fE cd (kids.map Cd.o0) seen d w,.gY,Rw.o ⟨op,a,b,c⟩] σ
def acr:(cH .u).map (λe=>DR n cd kids seen d w e.1 a b c σ)=(cH .u).map λe=>m9 true σ:=aO
def acs:(cH .j).map (λe=>DR n cd kids seen d w e.1 a b c σ)=(cH .j).map λe=>m9 true σ:=aO
def acu:(cH .s).map (λe=>DR n cd kids seen d w e.1 a b c σ)=(cH .s).map λe=>m9 true σ:=aO
def acv:(cH .a).map (λe=>DR n cd kids seen d w e.1 (.int i) b c σ)=(cH .a).map λe=>Np (kids.map Cd.o0) i (kdOf e.1) σ:=aO
def acw:(cH .b).map (λe=>DR n cd kids seen d w e.1 a (.int i) c σ)=(cH .b).map λe=>Np (kids.map Cd.o0) i (kdOf e.1) σ:=aO
def ZQ{s:Str}{o:bV}(h:o.block=true):(cH .sn).map (λe=>DR n cd kids seen d w e.1 a b (.tup s o) σ)=(cH .sn).map λe=>xQ (kids.map Cd.o0) σ o:=
 gK (C:=λo=>(cH .sn).map (λe=>DR n cd kids seen d w e.1 a b (.tup s o) σ)=(cH .sn).map λe=>xQ (kids.map Cd.o0) σ o) h (aO) (λj=>by kernel_rfl) λj j=>by kernel_rfl
def ZR(h:b.block=true):(cH .su).map (λe=>DR n cd kids seen d w e.1 a b c σ)=(cH .su).map λe=>xQ (kids.map Cd.o0) σ b:=
 gK (C:=λb=>(cH .su).map (λe=>DR n cd kids seen d w e.1 a b c σ)=(cH .su).map λe=>xQ (kids.map Cd.o0) σ b) h (aO) (λj=>by kernel_rfl) λj j=>by kernel_rfl
def ZS(h:a.block=true):(cH .zs).map (λe=>DR n cd kids seen d w e.1 a b c σ)=(cH .zs).map λe=>xQ (kids.map Cd.o0) σ a:=
 gK (C:=λa=>(cH .zs).map (λe=>DR n cd kids seen d w e.1 a b c σ)=(cH .zs).map λe=>xQ (kids.map Cd.o0) σ a) h (aO) (λj=>by kernel_rfl) λj j=>by kernel_rfl
def DT(kinds:aF)(r:Rw)(k:Kl):Bool:=match k with|.a=>xO kinds (kdOf r.op) r.a|.b=>xO kinds (kdOf r.op) r.b|.sn=>nB kinds r.c.snd|.su=>nB kinds r.b|.zs=>nB kinds r.a|_=>true
def sI(sN:Nat)(r:Rw)(k:Kl):Bool:=match k with|.s=>r.a.under sN&&r.b.under 2|_=>true
def H5{e:d6×Int×Int}(m:(op,e)∈tab)(f:dG e.1 [a,b,c]=true):DR n cd kids seen d w op a b c σ=m9 (DT (kids.map Cd.kind) ⟨op,a,b,c⟩ (mZ op)) σ:=
 B0 (P:=λa b c k=>DR n cd kids seen d w op a b c σ=m9 (DT (kids.map Cd.kind) ⟨op,a,b,c⟩ k) σ) m f (λm=>(map_eq acr m:)) (λi J m=>(map_eq acs m:)) (λi j J J m=>(map_eq acu m:)) (λi m=>(map_eq acv m:).trans vP)
  (λi m=>(map_eq acw m:).trans vP) (λs o l m=>(map_eq (ZQ l) m:).trans (vQ l)) (λl m=>(map_eq (ZR l) m:).trans (vQ l)) λl m=>(map_eq (ZS l) m:).trans (vQ l)
def H6(h:d7 r=true):F0 (n+4) 383 [fE cd (kids.map Cd.o0) seen d w,.gY,r.o] σ=m9 (DT (kids.map Cd.kind) r r.kl) σ:=mK h λe z m f=>H5 m f
def Nq:tab.map (λe=>fA e.1 sG)=tab.map λe=>(mZ e.1).n==2:=aO
def xR(n:Nat)(self r:Tr)(b:Bool)(σ:Sg):aw:=bif b then F0 (n+4) 376 [self,.gY,r] σ else qz σ
def Nr{e:d6×Int×Int}(m:(op,e)∈tab)(f:dG e.1 [a,b,c]=true):xR n (fE cd kT (sn.map kB) d w) (Rw.o ⟨op,a,b,c⟩) ((mZ op).n==2) σ=m9 (sI sn.length ⟨op,a,b,c⟩ (mZ op)) σ:=
 B0 (P:=λa b c k=>xR n (fE cd kT (sn.map kB) d w) (Rw.o ⟨op,a,b,c⟩) (k.n==2) σ=m9 (sI sn.length ⟨op,a,b,c⟩ k) σ) m f (λJ=>by kernel_rfl) (λJ J J=>by kernel_rfl) (λi j l J m=>(show xR n (fE cd kT (sn.map kB) d w) (Rw.o ⟨op,.int i,.int j,c⟩) (Kl.s.n==2) σ=H3 (sn.map kB) i j σ by kernel_rfl).trans (H4 l)) (λJ J=>by kernel_rfl) (λJ J=>by kernel_rfl) (λJ J J J=>by kernel_rfl) (λJ J=>by kernel_rfl) λJ J=>by kernel_rfl
def Nt(h:d7 r=true):xR n (fE cd kT (sn.map kB) d w) r.o (fA r.op sG) σ=m9 (sI sn.length r r.kl) σ:=
 mK h λe z m f=>by
  have q:fA r.op sG=((mZ r.op).n==2):=map_eq Nq m;rw[q];exact Nr m f
def bL(o:aw)(k:Sg->aw):aw:=o.bind λo=>ML o k
def sJ{x:Bool}{k:Sg->aw}:bL (m9 x σ) k=bif x then k σ else dp:=by cases x<;>rfl
def Nu{x3:aT}{k:gZ}{self:Tr}(qi:self=fE cd kT seen d w):dy (n+5) Nk [some self,some .gY,some r.o,x3] σ k=bL (F0 (n+5) 369 [self,.gY,r.o] σ) λσ=>bif fA r.op sG then bL (F0 (n+5) 376 [self,.gY,r.o] σ) λσ=>bL (F0 (n+5) 383 [self,.gY,r.o] σ) (k [some self,some .gY,some r.o,x3])
  else bL (F0 (n+5) 383 [self,.gY,r.o] σ) (k [some self,some .gY,some r.o,x3]):=by
 subst qi
 kernel_rfl
end
section
variable{α:Type}{b:Sv}{tg:aC}{f:α->ah}{p:α->Bool}{R:aw}{k:gZ}{σ:Sg}{xs:List α}
def qM{inv:bU->Prop}:∀{ρ},inv ρ->(∀x∈xs,∀ρ,inv ρ->∃ρ',inv ρ'/\∀K:gZ,gy ρ tg (f x) (λρ1=>b ρ1 σ K)=bif p x then K ρ' σ else R)->
  ∃ρ',inv ρ'/\iZ b tg (xs.map f) ρ σ k=bif xs.all p then k ρ' σ else R:=by
 induction xs with
 |nil=>exact λi j=>⟨_,i,rfl⟩
 |cons x xs ih=>
  intro ρ i h;obtain⟨ρ',i',e⟩:=h x (.head _) ρ i;obtain⟨ρ2,i2,e2⟩:=ih i' λy m=>h y (.tail _ m);refine⟨ρ2,i2,(e _).trans ?_⟩;rw[e2]
  show _=bif p x&&xs.all p then _ else _
  cases p x<;>rfl
def comp_map{c e:Ev}{ρ:bU}{g:α->Tr}{k:ah->Sg->aw}:∀{acc:ah},(∀x∈xs,∀(K:Ko)(K2:Sg->aw),gy ρ tg (f x) (λρ'=>c ρ' σ λt σ=>BD t λb=>bif b then e ρ' σ K else K2 σ)=K (g x) σ)->
  iQ c e ρ tg (xs.map f) acc σ k=k (acc++xs.map g) σ:=by
 induction xs with
 |nil=>exact λj=>by rw[List.map_nil,List.map_nil,c9];rfl
 |cons x xs ih=>
  intro acc h;refine(h x (.head _) (λw σ=>iQ c e ρ tg (xs.map f) (acc++[w]) σ k) (λσ=>iQ c e ρ tg (xs.map f) acc σ k)).trans ((ih λy m=>h y (.tail _ m)).trans ?_);rw[aQ];rfl
def xS{c e:Ev}{ρ:bU}{g:α->Tr}{k:ah->Sg->aw}:∀{acc:ah},(∀x∈xs,∀(K:Ko)(K2:Sg->aw),gy ρ tg (f x) (λρ'=>c ρ' σ λt σ=>BD t λb=>bif b then e ρ' σ K else K2 σ)=bif p x then K (g x) σ else K2 σ)->
  iQ c e ρ tg (xs.map f) acc σ k=k (acc++(xs.filter p).map g) σ:=by
 induction xs with
 |nil=>exact λj=>by rw[List.map_nil,List.filter_nil,List.map_nil,c9];rfl
 |cons x xs ih=>
  intro acc h;refine(h x (.head _) (λw σ=>iQ c e ρ tg (xs.map f) (acc++[w]) σ k) (λσ=>iQ c e ρ tg (xs.map f) acc σ k)).trans ?_;have h':=λy m=>h y (.tail x m)
  cases q:p x with
  |false=>rw[List.filter_cons_of_neg (by rw[q];nofun)];exact ih h'|true=>rw[List.filter_cons_of_pos q];exact(ih h').trans (by rw[aQ];rfl)
end
def l9{x y:Bool}{A B:aw}:(bif x then(bif y then A else B)else B)=bif x&&y then A else B:=by cases x<;>rfl
def kindS:aF:=[k' "method",k' "program",k' "block",k' "class"]
def kY:Str:=k' "retry"
def kD(N:Nat)(k:Ct):Bool:=
 !(k.sort==kY)&&(decide ((0:Int)<=k.first)&&(decide (k.first<k.last)&&(decide (k.last<=(N:Int))&&(decide ((0:Int)<=k.target)&&(decide (k.target<(N:Int))&& !(decide (k.depth<0)))))))
def jo(s:Str):Prop:=s=kY\/s=k' "rescue"\/s=k' "ensure"
section
variable{n:Nat}{σ:Sg}{cd:Cd}{kids:iC}{kT seen:ah}{d w:Tr}{c:Ct}{K:Sg->aw}
def Nv{s:Str}(h:jo s):fA s [k' "rescue",k' "ensure"]= !(s==kY):=by rcases h with rfl|rfl|rfl<;>kernel_rfl
def uE{s a b c d e f:Bool}{A B:aw}:(bif s then B else bif a then(bif b then(bif !c then B else(bif d then(bif !e then B else(bif f then B else A))else B))else B)else B)=bif !s&&(a&&(b&&(c&&(d&&(e&& !f)))))then A else B:=by rw[j8 (x:=c),j8 (x:=e),<-j8 (x:=f),l9,l9,l9,l9,l9,<-j8 (x:=s),l9,Bool.and_assoc,Bool.and_assoc,Bool.and_assoc,Bool.and_assoc]
def Uu:S:=m8 (aU 0 gv)
def H7{self:Tr}(qi:self=fE cd kT seen d w)(hc:jo c.sort){y1 y2:aT}{K:gZ}:
  gy [some self,y1,y2] [1] (ck true c.o) (λρ1=>dy (n+1) Uu ρ1 σ K)=bif kD cd.rows.length c then K [some self,some c.o,some (.val (int ((cd.rows.map Rw.o).length:Int)))] σ else dp:=by
 subst qi;refine Eq.trans (b:=bif !(fA c.sort [k' "rescue",k' "ensure"])then dp else bif decide ((0:Int)<=c.first)then(bif decide (c.first<c.last)then(bif !(decide (c.last<=((cd.rows.map Rw.o).length:Int)))then dp else
  (bif decide ((0:Int)<=c.target)then(bif !(decide (c.target<((cd.rows.map Rw.o).length:Int)))then dp else(bif decide (c.depth<0)then dp else K [some (fE cd kT seen d w),some c.o,some (.val (int ((cd.rows.map Rw.o).length:Int)))] σ))else dp))else dp)else dp) (aO) ?_
 rw[Nv hc,Bool.not_not,au];exact uE
def DU(h:∀c∈cd.cats,jo c.sort):F0 (n+2) 397 [fE cd kT seen d w] σ=m9 (cd.cats.all (kD cd.rows.length)) σ:=by
 have e:F0 (n+2) 397 [fE cd kT seen d w] σ=iZ (dy (n+1) Uu) [1] ((cd.cats.map Ct.o).map (ck true)) [some (fE cd kT seen d w),none,none] σ doneK:=aO;obtain⟨ρ',⟨y1,y2,rfl⟩,e2⟩:=qM (k:=doneK) (R:=dp) (σ:=σ) (inv:=λρ'=>∃y1 y2,ρ'=[some (fE cd kT seen d w),y1,y2]) (p:=kD cd.rows.length) (b:=dy (n+1) Uu) (tg:=[1]) (f:=λc:Ct=>ck true c.o) (xs:=cd.cats) ⟨none,none,rfl⟩ λc m ρ hρ=>by
  obtain⟨y1,y2,rfl⟩:=hρ;exact⟨_,⟨_,_,rfl⟩,λK=>H7 rfl (h c m)⟩
 rw[e,dq];exact e2
def Nw{N sN:Nat}{kinds:aF}{r:Rw}:restOk N sN kinds r=(sH N r r.kl&&(sI sN r r.kl&&DT kinds r r.kl)):=by
 have:∀k,HQ N sN kinds r k=(sH N r k&&(sI sN r k&&DT kinds r k)):=λk=>by cases k<;>first|rfl|exact(Bool.and_true _).symm
 exact this r.kl
def H8{x:Bool}{A:aw}{K:Sg->aw}:(bif x then bL A K else K σ)=bL (bif x then A else qz σ) K:=by cases x<;>rfl
variable{sn:List (Cd×ah)}{r:Rw}
def Uv(hs:r.small=true){self:Tr}(qi:self=fE cd (kids.map Cd.o0) (sn.map kB) d w){x1 x2 x3:aT}{k:gZ}:
  gy [some self,x1,x2,x3] [1,2] [.gY,r.o] (λρ=>dy (n+5) Nk ρ σ k)=bif eX cd.rows.length sn.length (kids.map Cd.kind) r then k [some self,some .gY,some r.o,x3] σ else dp:=by
 refine(Nu qi).trans ?_;subst qi;rw[Nn hs];unfold eX
 cases hf:d7 r with
 |false=>rfl|true=>
  rw[Nw]
  show bL (m9 (sH cd.rows.length r r.kl) σ) _=bif sH cd.rows.length r r.kl&&(sI sn.length r r.kl&&DT (kids.map Cd.kind) r r.kl)then _ else _
  rw[sJ,<-l9];refine ak (λx=>bif sH cd.rows.length r r.kl then x else dp) ?_;refine H8.trans ?_
  show bL (xR (n+1) (fE cd (kids.map Cd.o0) (sn.map kB) d w) r.o (fA r.op sG) σ) _=_
  rw[Nt hf,sJ,<-l9];refine ak (λx=>bif sI sn.length r r.kl then x else dp) ?_
  show bL (F0 (n+5) 383 _ σ) _=_
  rw[H6 hf,sJ]
def Ny(hs:∀r∈cd.rows,r.small=true){self:Tr}(qi:self=fE cd (kids.map Cd.o0) (sn.map kB) d w){k:gZ}:∃ρ',(∃x1 x2 x3,ρ'=[some self,x1,x2,x3])/\
  iZ (dy (n+5) Nk) [1,2] ((cd.rows.map Rw.o).map λt=>[.gY,t]) [some self,none,none,none] σ k=bif cd.rows.all (eX cd.rows.length sn.length (kids.map Cd.kind))then k ρ' σ else dp:=by
 rw[dq];exact qM (f:=λr:Rw=>[.gY,r.o]) (inv:=λρ'=>∃x1 x2 x3,ρ'=[some self,x1,x2,x3]) ⟨none,none,none,rfl⟩ λr m ρ hρ=>by
  obtain⟨x1,x2,x3,rfl⟩:=hρ;exact⟨_,⟨_,_,_,rfl⟩,λK=>Uv (hs r m) qi⟩
end
section
variable{n:Nat}{σ:Sg}{cd:Cd}{kids:iC}{kT:ah}
def ifL(n:Nat)(x:aw):aw:=if n<aq then x else none
def Av{n:Nat}{x:aw}(h:n<aq):ifL n x=x:=av h
def xT(n:Nat)(iu:E)(ρ:bU)(tg:aC)(items:List ah)(σ:Sg)(k:ah->Sg->aw):aw:=ifL items.length (iQ (litE (.bool true)) (gz (F0 n) (dW Ak n true) iu).e ρ tg items [] σ k)
def pT{α:Type}{n:Nat}{iu:E}{ρ:bU}{tg:aC}{k:ah->Sg->aw}{t g:α->Tr}{d:Bool}{xs:List α}(l:xs.length<aq)(h:∀x∈xs,∀K:Ko,gy ρ tg (ck d (t x)) (λρ'=>(gz (F0 n) (dW Ak n true) iu).e ρ' σ K)=K (g x) σ):
  xT n iu ρ tg ((xs.map t).map (ck d)) σ k=k (xs.map g) σ:=by
 unfold xT;rw[dq,au,Av l];exact comp_map (f:=ck d∘t) λx m K K2=>h x m K
def H9(kT:ah)(cd:Cd)(x8 x9:aT):bU:=[some (cd.t kT),some (.val (str cd.kind)),some (.val (int 2)),some (.lst (cd.rows.map Rw.t)),some (.lst (cd.cats.map Ct.t)),some (.lst kT),some (startT cd.starts),x8.map λj=>.lst [.txt 21,.txt 21],x8,x9,none,none,none,none,none,none,none,none,none,none,none]
def B4(hk:∀k∈kids,F0 (n+1) 561 [k.t0] σ=iF k.o0 σ)(h1:cd.rows.length<aq)(h2:cd.cats.length<aq)(h3:kids.length<aq):F0 (n+2) 561 [cd.t (kids.map Cd.t0)] σ=iF (cd.o (kids.map Cd.o0)) σ:=by
 have e:F0 (n+2) 561 [cd.t (kids.map Cd.t0)] σ=xT (n+1) (.call (.glob (.ref 87)) (.cons (.loc 11) (.cons (.loc 12) (.cons (.loc 13) (.cons (.loc 14) (.cons (.lit (int 1)) .nil)))))) (H9 (kids.map Cd.t0) cd none none) [11,12,13,14] ((cd.rows.map Rw.t).map (ck false)) σ λus σ=>
  xT (n+1) (.call (.glob (.ref 115)) (.cons (.loc 15) (.cons (.loc 16) (.cons (.loc 17) (.cons (.loc 18) (.cons (.loc 19) .nil)))))) (H9 (kids.map Cd.t0) cd (some (.lst us)) none) [15,16,17,18,19] ((cd.cats.map Ct.t).map (ck false)) σ λvs σ=>
  xT (n+1) (.call (.glob (.ref 561)) (.cons (.loc 20) .nil)) (H9 (kids.map Cd.t0) cd (some (.lst us)) (some (.lst vs))) [20] ((kids.map Cd.t0).map (ck true)) σ λws σ=>
  iF (.obj 150 [.kind,.name,.params,.slots,.rows,.hY,.children,.starts,.number] [.val (str cd.kind),.val (str (k' "c")),.val .none,.lst [.txt 21,.txt 21],.lst us,.lst vs,.lst ws,startT cd.starts,.val .none]) σ:=aO
 exact e.trans ((pT (t:=Rw.t) (g:=Rw.o) h1 λx j K=>by kernel_rfl).trans ((pT (t:=Ct.t) (g:=Ct.o) h2 λx j K=>by kernel_rfl).trans (pT (t:=Cd.t0) (g:=Cd.o0) h3 λx m K=>(show _=dF (F0 (n+1) 561 [x.t0] σ) K by kernel_rfl).trans (cn (hk x m) rfl))))
end
def pb(o:Option Int):Tr:=.val (o.elim .none int)
def lG(p:Int×Int):Tr:=.tup [.val (int p.1),.val (int p.2)]
def dT(D:Option fy):Tr:=D.elim (.val .none) λd=>.lst (d.map pb)
def o4:aF:=[k' "jump",k' "leave",k' "out",k' "again",k' "nomatch"]
noncomputable def gU(i:Int)(k:Ct):Bool:=decide (k.first<=i)&&decide (i<k.last)
noncomputable def Aw(k:Ct):Int×Int:=(k.target,k.depth+1)
def iS(r:Rw)(y:Int):bz:=bif fA r.op fM then [(r.a.i0,y)]else []
def kE(r:Rw)(i y:Int):bz:=bif fA r.op o4 then []else [(i+1,y)]
def mf(cats:e9)(i:Int):bz:=(cats.filter (gU i)).map Aw
def gV(cats:e9)(i x:Int):Bool:=cats.all λk=> !(gU i k)||decide (k.depth<=x)
def sL(cd:Cd)(r:Rw)(i x:Int):bz:=iS r (x-(dY r).1+(dY r).2)++kE r i (x-(dY r).1+(dY r).2)++mf cd.cats i
def graph(cd:Cd):Gr where
 N:=cd.rows.length
 starts:=cd.starts
 ok i x:=(cd.rows[i]?).elim false λr=>decide ((dY r).1<=x)&&gV cd.cats i x
 outs i x:=(cd.rows[i]?).elim [] λr=>sL cd r i x
def σH(d:fy)(ws:bz):Sg:=[.buf none (d.map pb) (aq-d.length),.buf none (ws.map lG) (aq-ws.length)]
abbrev c0:Tr:=.cell 0
noncomputable abbrev c1:Tr:=.cell 1
def g8(n:Nat)(s:S):Zp:=MP (F0 n) (dW Ak n true) true s
def Ia:aC->ah->Sv|[]=>Hh|i::is=>Ac (Hg i) (Ia is)
def tupK(is:aC)(ρ:bU)(K:gZ):Ko:=λv σ=>(zU σ v).bind λvs=>if vs.length=is.length then Ia is vs ρ σ K else none
def Ib(σ:Sg)(t x:Tr)(K:Sg->aw):aw:=(TJ (mH σ t x)).bind λq=>Mx q λj σ=>K σ
def nE(σ:Sg):aw:=iF (.val .none) σ
section
variable{d:fy}{ws:bz}{s x y:Int}{K:Sg->aw}
def B5{o:Option Int}(h:0<=s)(e:d[s.toNat]? =some o):fq (σH d ws) c0 (.val (int s))=some (pb o):=idx_map (σ:=σH d ws) (f:=pb) h e
def ZT(h:0<=s)(l:s.toNat<d.length):sh (σH d ws) c0 (.val (int s)) (.val (int x))=some (σH (d.set s.toNat (some x)) ws):=by
 show(if 0<=s/\s<(d.map pb).length then some (Cn.buf none ((d.map pb).set s.toNat (.val (int x))) (aq-d.length))else none).map _=_
 rw[av ⟨h,by rw[au];exact(Int.toNat_lt h).mp l⟩];unfold σH;rw[List.map_set,eJ];rfl
variable{p:Int×Int}
def Ic(l:ws.length<aq):Ib (σH d ws) c1 (lG p) K=K (σH d (ws++[p])):=by
 have e:aq-ws.length=(aq-(ws++[p]).length)+1:=by rw[aE];exact(LI l).symm
 have:mH (σH d ws) c1 (lG p)=some (σH d (ws++[p])):=by
  unfold σH;rw[e,bM];rfl
 unfold Ib;rw[this];rfl
def ZU(l:ws.length<aq):z9 (σH d (ws++[p])) c1=some (lG p,σH d ws):=by
 have e:aq-(ws++[p]).length+1=aq-ws.length:=by rw[aE];exact LI l
 have q:z8 ((ws++[p]).map lG)=some (lG p,ws.map lG):=by
  unfold z8;rw[bM,show [p].map lG=[lG p]from rfl,List.getLast?_concat,List.dropLast_concat];rfl
 show((z8 ((ws++[p]).map lG)).map λq=>(q.1,Cn.buf none q.2 (aq-(ws++[p]).length+1))).map (λy=>(y.1,(σH d (ws++[p])).set 1 y.2))=_
 rw[q,e];rfl
def acx:jw (σH d (ws++[p])) .NotEq c1 (.lst [])=some true:=by
 show(if((ws++[p]).map lG).length=0 then lX ((ws++[p]).map lG) []else some false).map (!·)=_
 rw[aB (by rw[au,aE];exact Nat.succ_ne_zero _)];rfl
end
def hW:S:=m8 (aU 2 cT)
def hN:S:=m8 (aU 2 hW)
def hF:S:=m8 (aU 6 hN)
abbrev Jw(pl nF:Tr)(xs:bU):bU:=some pl::some nF::some c0::some c1::xs
section
variable{n:Nat}{pl nF:Tr}{σ:Sg}{d:fy}{ws:bz}{K:gZ}{s x t p:Int}{x4 x5 x6 x7 x8 x9 x10 x11 x12 x13 x14 x15 x16 x17:aT}{op:Str}{a:bV}{c:Ct}
def ZV:(g8 n (aU 0 hW)).o (Jw pl nF [x4,x5,x6,x7,x8,x9,x10,x11,x12,x13,x14,x15,x16,x17]) (σH d ws) K=(z9 (σH d ws) c1).bind λq=>Mx q (tupK [4,5] (Jw pl nF [x4,x5,x6,x7,x8,x9,x10,x11,x12,x13,x14,x15,x16,x17]) K):=aO
abbrev Hx(pl nF:Tr)(s x:Int)(xs:bU):bU:=Jw pl nF (some (.val (int s))::some (.val (int x))::xs)
def ZW{rows:ah}:(g8 n (aU 1 hW)).o (Hx pl (.lst rows) s x [x6,x7,x8,x9,x10,x11,x12,x13,x14,x15,x16,x17]) σ K=bif decide (s>=(rows.length:Int))then nE σ else(fq σ c0 (.val (int s))).bind λt=>(jw σ .IsNot t (.val .none)).bind λb=>bif b then(fq σ c0 (.val (int s))).bind λt=>(jw σ .NotEq t (.val (int x))).bind λb=>bif b then nE σ else K (Hx pl (.lst rows) s x [x6,x7,x8,x9,x10,x11,x12,x13,x14,x15,x16,x17]) σ else K (Hx pl (.lst rows) s x [x6,x7,x8,x9,x10,x11,x12,x13,x14,x15,x16,x17]) σ:=aO
def P4:(g8 n (aU 2 hW)).o (Hx pl nF s x [x6,x7,x8,x9,x10,x11,x12,x13,x14,x15,x16,x17]) σ K=(fq σ c0 (.val (int s))).bind λt=>(jw σ .Is t (.val .none)).bind λb=>bif b then(g8 n hN).s (Hx pl nF s x [x6,x7,x8,x9,x10,x11,x12,x13,x14,x15,x16,x17]) σ K else K (Hx pl nF s x [x6,x7,x8,x9,x10,x11,x12,x13,x14,x15,x16,x17]) σ:=aO
def ZX:(g8 n (aU 0 hN)).o (Hx pl nF s x [x6,x7,x8,x9,x10,x11,x12,x13,x14,x15,x16,x17]) σ K=(sh σ c0 (.val (int s)) (.val (int x))).bind (K (Hx pl nF s x [x6,x7,x8,x9,x10,x11,x12,x13,x14,x15,x16,x17])):=aO
def ZY:(g8 n (aU 1 hN)).o (Hx pl nF s x [x6,x7,x8,x9,x10,x11,x12,x13,x14,x15,x16,x17]) σ K=(fq σ nF (.val (int s))).bind λt=>tupK [6,7,8,9] (Hx pl nF s x [x6,x7,x8,x9,x10,x11,x12,x13,x14,x15,x16,x17]) K t σ:=aO
def ZZ{u6 u7 u8 u9:Tr}:(g8 (n+1) (aU 2 hN)).o (Hx pl nF s x [some u6,some u7,some u8,some u9,x10,x11,x12,x13,x14,x15,x16,x17]) σ K=dF (F0 (n+1) 446 [u6,u7,u8,u9] σ) (tupK [10,11] (Hx pl nF s x [some u6,some u7,some u8,some u9,x10,x11,x12,x13,x14,x15,x16,x17]) K):=aO
abbrev Hy(pl nF:Tr)(s x:Int)(op:Str)(a:bV)(t p:Int)(x8 x9:aT)(xs:bU):bU:=Hx pl nF s x (some (.val (str op))::some a.t::x8::x9::some (.val (int t))::some (.val (int p))::xs)
def Z0:(g8 n (aU 3 hN)).o (Hy pl nF s x op a t p x8 x9 [x12,x13,x14,x15,x16,x17]) σ K=bif decide (x<t)then nE σ else K (Hy pl nF s x op a t p x8 x9 [x12,x13,x14,x15,x16,x17]) σ:=aO
def Uw:tab.map (λe=>(g8 n (aU 4 hN)).o (Hy pl nF s x e.1 a t p x8 x9 [x12,x13,x14,x15,x16,x17]) (σH d ws) K)=tab.map λe=>bif fA e.1 fM then Ib (σH d ws) c1 (.tup [a.t,.val (int (x-t+p))]) (K (Hy pl nF s x e.1 a t p x8 x9 [x12,x13,x14,x15,x16,x17]))else K (Hy pl nF s x e.1 a t p x8 x9 [x12,x13,x14,x15,x16,x17]) (σH d ws):=aO
def Ux:(g8 n (aU 5 hN)).o (Hy pl nF s x op a t p x8 x9 [x12,x13,x14,x15,x16,x17]) (σH d ws) K=bif !(fA op o4)then Ib (σH d ws) c1 (lG (s+1,x-t+p)) (K (Hy pl nF s x op a t p x8 x9 [x12,x13,x14,x15,x16,x17]))else K (Hy pl nF s x op a t p x8 x9 [x12,x13,x14,x15,x16,x17]) (σH d ws):=aO
def Z1:gy (Hy pl nF s x op a t p x8 x9 [x12,x13,x14,x15,x16,x17]) [12,13,14,15,16] (ck false c.t) (λρ=>(g8 n hF).s ρ (σH d ws) K)=bif decide (c.first<=s)then(bif decide (s<c.last)then(bif decide (x<c.depth)then nE (σH d ws)else Ib (σH d ws) c1 (lG (Aw c)) (K (Hy pl nF s x op a t p x8 x9 [some (.val (str c.sort)),some (.val (int c.first)),some (.val (int c.last)),some (.val (int c.target)),some (.val (int c.depth)),x17])))
  else K (Hy pl nF s x op a t p x8 x9 [some (.val (str c.sort)),some (.val (int c.first)),some (.val (int c.last)),some (.val (int c.target)),some (.val (int c.depth)),x17]) (σH d ws))else K (Hy pl nF s x op a t p x8 x9 [some (.val (str c.sort)),some (.val (int c.first)),some (.val (int c.last)),some (.val (int c.target)),some (.val (int c.depth)),x17]) (σH d ws):=aO
end
inductive Lo:aw->Prop
 |mk (σ):Lo (nE σ)
def Z2(K:gZ)(pl nF:Tr)(σ:Sg)(Z:aw->Prop):Prop:=∀y4 y5 y6 y7 y8 y9 y10 y11 y12 y13 qA yq yr Uy,Z (K (Jw pl nF [y4,y5,y6,y7,y8,y9,y10,y11,y12,y13,qA,yq,yr,Uy]) σ)
def Hr(b:Bool)(o:aw)(Z:aw->Prop):Prop:=mO b (Z o) (Lo o)
def qj{b:Bool}{o o':aw}{Z:aw->Prop}(e:o=o')(h:Hr b o' Z):Hr b o Z:=e▸h
def P5{σ:Sg}{Z:aw->Prop}:Hr false (nE σ) Z:=⟨σ⟩
section
variable{n:Nat}{pl:Tr}{rows:ah}{d:fy}{ws:bz}{K:gZ}{s x t p:Int}{x8 x9 x12 x13 x14 x15 x16 x17:aT}{op:Str}{a:bV}{Z:aw->Prop}{cats:e9}
def Uz(n:Nat)(cats:e9)(pl:Tr)(rows:ah)(s x:Int)(op:Str)(a:bV)(t p:Int)(x8 x9 x17:aT)(K:gZ)(ys:bU)(σ:Sg):aw:=iZ (g8 n hF).s [12,13,14,15,16] ((cats.map Ct.t).map (ck false)) (Hy pl (.lst rows) s x op a t p x8 x9 (ys++[x17])) σ K
def Nz:∀{ws x12 x13 x14 x15 x16},ws.length+cats.length<aq->(∀y12 y13 qA yq yr,Z (K (Hy pl (.lst rows) s x op a t p x8 x9 [y12,y13,qA,yq,yr,x17]) (σH d (ws++mf cats s))))->
  Hr (gV cats s x) (Uz n cats pl rows s x op a t p x8 x9 x17 K [x12,x13,x14,x15,x16] (σH d ws)) Z:=by
 induction cats with
 |nil=>exact λ{ws x12 x13 x14 x15 x16} _ h=>qj (b:=true) (ak (λws=>K (Hy pl (.lst rows) s x op a t p x8 x9 [x12,x13,x14,x15,x16,x17]) (σH d ws)) (c9 ws).symm) (h _ _ _ _ _)|cons c cats ih=>
  intro ws x12 x13 x14 x15 x16 l h;have l':ws.length+(cats.length+1)<aq:=l;refine qj (Z1 (K:=λρ σ=>iZ (g8 n hF).s [12,13,14,15,16] ((cats.map Ct.t).map (ck false)) ρ σ K)) ?_
  show Hr ((!(gU s c)||decide (c.depth<=x))&&gV cats s x) _ Z
  have skip:gU s c=false->∀{y12 y13 qA yq yr},Hr ((!(gU s c)||decide (c.depth<=x))&&gV cats s x) (Uz n cats pl rows s x op a t p x8 x9 x17 K [y12,y13,qA,yq,yr] (σH d ws)) Z:=λq=>by
   rw[q];refine ih (by lia) λy12 y13 qA yq yr=>?_;have:=h y12 y13 qA yq yr;unfold mf at this⊢;rw[List.filter_cons_of_neg (by rw[q];nofun)]at this;exact this
  cases h1:decide (c.first<=s)with
  |false=>exact skip (by unfold gU;rw[h1];rfl)|true=>cases h2:decide (s<c.last)with
   |false=>exact skip (by unfold gU;rw[h1,h2];rfl)|true=>
    have q:gU s c=true:=by unfold gU;rw[h1,h2];rfl
    rw[q];by_cases h3:x<c.depth
    ·rw[aZ h3,b9 (p:=c.depth<=x) (by lia)];exact P5
    ·rw[b9 h3,aZ (p:=c.depth<=x) (by lia)];refine qj (Ic (by lia)) (ih (by rw[aE];show ws.length+1+cats.length<aq;lia) λy12 y13 qA yq yr=>?_);have:=h y12 y13 qA yq yr;unfold mf at this⊢;rw[List.filter_cons_of_pos q]at this;rw[aQ];exact this
end
def Jm(r:Rw):Prop:=fA r.op fM=true->∃i,r.a=.int i/\0<=i
def NA:tab.map (λe=>fA e.1 fM)=tab.map λe=>(mZ e.1).n==1:=aO
def sM{r:Rw}(h:d7 r=true):Jm r:=mK h λe z m f hj=>by
 have q:fA r.op fM=((mZ r.op).n==1):=map_eq NA m;rw[q]at hj
 cases k:mZ r.op with
 |j=>
  have l:=map_eq P2 (m7 m k);have l:e.1=[Lt.p]:=l;rw[l]at f;exact gI (C:=λa=>∃i,a=.int i/\0<=i) (gD f).1 λi l=>⟨i,rfl,l⟩
 |_=>rw[k]at hj;exact iM hj
section
variable{n:Nat}{d:fy}{ws:bz}{K:gZ}{s x:Int}{x6 x7 x8 x9 x10 x11 x12 x13 x14 x15 x16 x17:aT}{Z:aw->Prop}{cd:Cd}{kT:ah}{r:Rw}
def UA{ρ:bU}{σ:Sg}{K:gZ}:(g8 n hN).s ρ σ K=(g8 n (aU 0 hN)).o ρ σ λρ σ=>(g8 n (aU 1 hN)).o ρ σ λρ σ=>(g8 n (aU 2 hN)).o ρ σ λρ σ=>(g8 n (aU 3 hN)).o ρ σ λρ σ=>(g8 n (aU 4 hN)).o ρ σ λρ σ=>(g8 n (aU 5 hN)).o ρ σ λρ σ=>(g8 n (aU 6 hN)).o ρ σ K:=aO
def Z3{op:Str}{a:bV}{t p:Int}{rows:ah}{σ:Sg}:(g8 n (aU 6 hN)).o (Hy (cd.t kT) (.lst rows) s x op a t p x8 x9 [x12,x13,x14,x15,x16,x17]) σ K=Uz n cd.cats (cd.t kT) rows s x op a t p x8 x9 x17 K [x12,x13,x14,x15,x16] σ:=aO
abbrev Hz(cd:Cd)(kT:ah)(s x:Int)(r:Rw)(xs:bU):bU:=Hy (cd.t kT) (.lst (cd.rows.map Rw.t)) s x r.op r.a (dY r).1 (dY r).2 (some r.b.t) (some r.c.t) xs
def Z4(hs:0<=s)(hd:s.toNat<d.length)(hr:cd.rows[s.toNat]? =some r)(hf:d7 r=true):(g8 (n+2) hN).s (Hx (cd.t kT) (.lst (cd.rows.map Rw.t)) s x [x6,x7,x8,x9,x10,x11,x12,x13,x14,x15,x16,x17]) (σH d ws) K=bif decide (x<(dY r).1)then nE (σH (d.set s.toNat (some x)) ws)else
   bif fA r.op fM then Ib (σH (d.set s.toNat (some x)) ws) c1 (.tup [r.a.t,.val (int (x-(dY r).1+(dY r).2))]) (λσ=>(g8 (n+2) (aU 5 hN)).o (Hz cd kT s x r [x12,x13,x14,x15,x16,x17]) σ λρ σ=>(g8 (n+2) (aU 6 hN)).o ρ σ K)
   else(g8 (n+2) (aU 5 hN)).o (Hz cd kT s x r [x12,x13,x14,x15,x16,x17]) (σH (d.set s.toNat (some x)) ws) λρ σ=>(g8 (n+2) (aU 6 hN)).o ρ σ K:=by
 rw[UA,ZX,ZT hs hd];show(g8 (n+2) (aU 1 hN)).o _ (σH (d.set s.toNat (some x)) ws) _=_
 rw[ZY,idx_map (f:=Rw.t) hs hr];show(g8 (n+2) (aU 2 hN)).o (Hx (cd.t kT) (.lst (cd.rows.map Rw.t)) s x [some (.val (str r.op)),some r.a.t,some r.b.t,some r.c.t,x10,x11,x12,x13,x14,x15,x16,x17]) (σH (d.set s.toNat (some x)) ws) _=_
 rw[ZZ];refine cn (Nf hf n (σH (d.set s.toNat (some x)) ws)) ?_;show(g8 (n+2) (aU 3 hN)).o (Hz cd kT s x r [x12,x13,x14,x15,x16,x17]) (σH (d.set s.toNat (some x)) ws) _=_
 rw[Z0];exact mK hf λe z m f=>ak (λy=>bif decide (x<(dY r).1)then nE (σH (d.set s.toNat (some x)) ws)else y) (map_eq Uw m:)
section
variable(hK:Z2 K (cd.t kT) (.lst (cd.rows.map Rw.t)) (σH (d.set s.toNat (some x)) (ws++sL cd r s x)) Z)(l:ws.length+(2+cd.cats.length)<aq)
include hK l
def Ie{ws2:bz}(l2:ws2.length<=ws.length+2)(e2:ws2=ws++iS r (x-(dY r).1+(dY r).2)++kE r s (x-(dY r).1+(dY r).2)):Hr (gV cd.cats s x) ((g8 (n+2) (aU 6 hN)).o (Hz cd kT s x r [x12,x13,x14,x15,x16,x17]) (σH (d.set s.toNat (some x)) ws2) K) Z:=by
 refine qj Z3 (Nz (by lia) λy12 y13 qA yq yr=>?_);rw[e2,aQ,aQ,<-aQ (iS ..)];exact hK ..
def Ig{ws1:bz}(l1:ws1.length<=ws.length+1)(e1:ws1=ws++iS r (x-(dY r).1+(dY r).2)):Hr (gV cd.cats s x) ((g8 (n+2) (aU 5 hN)).o (Hz cd kT s x r [x12,x13,x14,x15,x16,x17]) (σH (d.set s.toNat (some x)) ws1) λρ σ=>(g8 (n+2) (aU 6 hN)).o ρ σ K) Z:=by
 refine qj Ux ?_;have go:=λ{ws2}=>Ie (n:=n) (x12:=x12) (x13:=x13) (x14:=x14) (x15:=x15) (x16:=x16) (x17:=x17) hK l (ws2:=ws2);rw[<-e1]at go;unfold kE at go
 cases q:fA r.op o4 with
 |true=>exact go (by lia) (by rw[q];exact(c9 _).symm)|false=>exact qj (Ic (by lia)) (go (by rw[aE];exact Nat.succ_le_succ l1) (by rw[q];rfl))
def NC(hs:0<=s)(hd:s.toNat<d.length)(hr:cd.rows[s.toNat]? =some r)(hf:d7 r=true):
  Hr (decide ((dY r).1<=x)&&gV cd.cats s x) ((g8 (n+2) hN).s (Hx (cd.t kT) (.lst (cd.rows.map Rw.t)) s x [x6,x7,x8,x9,x10,x11,x12,x13,x14,x15,x16,x17]) (σH d ws) K) Z:=by
 refine qj (Z4 hs hd hr hf) ?_;by_cases hx:(dY r).1<=x
 ·rw[aZ hx,b9 (p:=x<(dY r).1) (by lia)];have go:=λ{ws1}=>Ig (n:=n) (x12:=x12) (x13:=x13) (x14:=x14) (x15:=x15) (x16:=x16) (x17:=x17) hK l (ws1:=ws1);unfold iS at go
  show Hr (gV cd.cats s x) (bif fA r.op fM then _ else _) Z
  cases q:fA r.op fM with
  |false=>exact go (Nat.le_succ _) (by rw[q];exact(c9 _).symm)|true=>
   obtain⟨i,ha,_⟩:=sM hf q;have e:Ib (σH (d.set s.toNat (some x)) ws) c1 (.tup [r.a.t,.val (int (x-(dY r).1+(dY r).2))])=Ib (σH (d.set s.toNat (some x)) ws) c1 (lG (r.a.i0,x-(dY r).1+(dY r).2)):=by rw[ha];rfl
   exact qj ((congrFun e _).trans (Ic (by lia))) (go (by rw[aE];exact aH _) (by rw[q];rfl))
 ·rw[b9 hx,aZ (p:=x<(dY r).1) (by lia)];exact P5
end
end
structure ND(cd:Cd):Prop where
 rows:∀r∈cd.rows,d7 r=true
 cats:∀k∈cd.cats,0<=k.target
 room:cd.starts.length+(cd.rows.length+1)*(3+cd.cats.length)<aq
section
variable{cd:Cd}{n:Nat}{pl:Tr}{d:fy}{ws:bz}{s x:Int}{i:Nat}{r:Rw}{p:Int×Int}{σ:Sg}{K:gZ}{ρ:bU}
def xU(e:cd.rows[i]? =some r):(graph cd).ok i x=(decide ((dY r).1<=x)&&gV cd.cats i x):=by show((cd.rows[i]?).elim false _)=_;rw[e];rfl
def sO(e:cd.rows[i]? =some r):(graph cd).outs i x=sL cd r i x:=by show((cd.rows[i]?).elim [] _)=_;rw[e];rfl
def Ih(H:ND cd)(hr:r∈cd.rows)(m:p∈sL cd r i x):0<=p.1:=by
 unfold sL iS kE mf at m;refine(fZ m).elim (λm=>(fZ m).elim (λm=>?_) λm=>?_) λm=>?_
 ·cases hj:fA r.op fM with
  |false=>rw[hj]at m;cases m|true=>
   rw[hj]at m;obtain⟨j,ha,h0⟩:=sM (H.rows r hr) hj;rw[cI m,ha];exact h0
 ·cases hj:fA r.op o4 with|true=>rw[hj]at m;cases m|false=>rw[hj]at m;rw[cI m];exact d9 (i+1)
 ·obtain⟨k,mk,rfl⟩:=ja m;exact H.cats k (List.mem_filter.mp mk).1
def Ii{cats:e9}:(mf cats s).length<=cats.length:=by unfold mf;rw[au];exact List.length_filter_le ..
def Ij:(sL cd r s x).length<=2+cd.cats.length:=by
 have h1:(iS r (x-(dY r).1+(dY r).2)).length<=1:=by unfold iS;cases fA r.op fM<;>first|exact bO 1|exact aH 1
 have h2:(kE r s (x-(dY r).1+(dY r).2)).length<=1:=by unfold kE;cases fA r.op o4<;>first|exact bO 1|exact aH 1
 have h3:=Ii (s:=s) (cats:=cd.cats);unfold sL;rw[aE,aE];exact cJ (cJ h1 h2) h3
def hC(n:Nat):Ev:=(gz (F0 n) (dW Ak n true) (.cmp (.loc 3) (.jz .NotEq (.list .nil) .nil))).e
def HW(n:Nat):Nat->Sv:=V8 (hC n) (g8 n hW).s
def Ik{f:Nat}{xs:bU}{rw':Tr}:HW n (f+1) (Jw pl rw' xs) (σH d ws) K=(jw (σH d ws) .NotEq c1 (.lst [])).bind λb=>bif b then(g8 n hW).s (Jw pl rw' xs) (σH d ws) (λρ σ=>HW n f ρ σ K)else K (Jw pl rw' xs) (σH d ws):=aO
def UB:(g8 n hW).s ρ σ K=(g8 n (aU 0 hW)).o ρ σ λρ σ=>(g8 n (aU 1 hW)).o ρ σ λρ σ=>(g8 n (aU 2 hW)).o ρ σ K:=aO
def tL(D:Option fy)(o:aw):Prop:=D.elim (Lo o) λd=>o=iF c0 (σH d [])
def acy{F F' c w m o:Nat}(hm:F+(w+1)<=m+1)(fm:F=F'+c)(lo:o<=c):F'+(w+o)<=m:=
 aa (bc (bc lo w) F') (by rw[fg w,<-bf];exact gE (fm▸hm))
def UC(H:ND cd){kT:ah}(hK:∀(d:fy) y4 y5 y6 y7 y8 y9 y10 y11 y12 y13 qA yq yr Uy,K (Jw (cd.t kT) (.lst (cd.rows.map Rw.t)) [y4,y5,y6,y7,y8,y9,y10,y11,y12,y13,qA,yq,yr,Uy]) (σH d [])=iF c0 (σH d [])):
  ∀(m f:Nat){d ws},free d*(3+cd.cats.length)+ws.length<=m->m<f->m+(3+cd.cats.length)<aq->j6 (graph cd) d ws->Z2 (HW (n+2) f · · K) (cd.t kT) (.lst (cd.rows.map Rw.t)) (σH d ws) λo=>∃D,Res (graph cd) D/\tL D o:=by
 intro m
 induction m with
 |zero=>
  intro f d ws hm hf hl L y4 y5 y6 y7 y8 y9 y10 y11 y12 y13 qA yq yr Uy
  cases f with
  |zero=>exact absurd hf (Nat.lt_irrefl 0)|succ f=>
   have:ws=[]:=List.eq_nil_of_length_eq_zero (Nat.eq_zero_of_le_zero (aa (cY _ _) hm));subst this;exact⟨some d,L.fin,Ik.trans (hK ..)⟩
 |succ m ih=>
  intro f d ws hm hf hl L y4 y5 y6 y7 y8 y9 y10 y11 y12 y13 qA yq yr Uy
  cases f with
  |zero=>exact absurd hf (Nat.not_lt_zero _)|succ f=>
   show∃D,_/\tL D (HW (n+2) (f+1) (Jw _ _ _) (σH d ws) K)
   have OZ:=bP (hV (Nat.le_succ m) (3+cd.cats.length)) hl;rw[Ik];rcases List.eq_nil_or_concat ws with rfl|⟨Il,⟨s,x⟩,rfl⟩
   ·exact⟨some d,L.fin,hK ..⟩
   ·rw[List.concat_eq_append]at L hm⊢;rw[aE]at hm;have hm:free d*(3+cd.cats.length)+(Il.length+1)<=m+1:=hm;rw[acx];show∃D,_/\tL D ((g8 (n+2) hW).s _ _ _)
    have wm:Il.length<=m:=gE (aa (cY _ _) hm);rw[UB,ZV,ZU (bP (aa wm (aW m _)) OZ)];show∃D,_/\tL D ((g8 (n+2) (aU 1 hW)).o (Hx (cd.t kT) (.lst (cd.rows.map Rw.t)) s x [y6,y7,y8,y9,y10,y11,y12,y13,qA,yq,yr,Uy]) (σH d Il) _)
    have h0:0<=s:=L.top.2;have ln:d.length=cd.rows.length:=L.len;rw[ZW,au];by_cases uA:s<(cd.rows.length:Int)
    ·have lr:s.toNat<cd.rows.length:=(Int.toNat_lt h0).mpr uA;have lt:s.toNat<d.length:=ln.symm▸lr;have hr:cd.rows[s.toNat]? =some cd.rows[s.toNat]:=bN lr;have mr:cd.rows[s.toNat]∈cd.rows:=List.getElem_mem lr;have si:((s.toNat:Nat):Int)=s:=Int.toNat_of_nonneg h0;rw[b9 (p:=s>=(cd.rows.length:Int)) (Int.not_le.mpr uA)];cases ho:d[s.toNat]with
     |none=>
      have Eb:d[s.toNat]? =some none:=ho▸bN lt;rw[B5 h0 Eb];show∃D,_/\tL D ((g8 (n+2) (aU 2 hW)).o _ _ _)
      rw[P4,B5 h0 Eb];show∃D,_/\tL D ((g8 (n+2) hN).s _ _ _)
      have lo:=Ij (cd:=cd) (r:=cd.rows[s.toNat]) (s:=s) (x:=x);have fs:=xI (x:=x) Eb;have fm:free d*(3+cd.cats.length)=free (d.set s.toNat (some x))*(3+cd.cats.length)+(3+cd.cats.length):=by rw[<-fs,Nat.add_mul,Nat.one_mul]
      have ok:=xU (x:=x) hr;have outs:=sO (x:=x) hr;have La:(graph cd).ok s.toNat x=true->j6 (graph cd) (d.set s.toNat (some x)) (Il++sL cd cd.rows[s.toNat] s x):=λq=>by
       have:=L.add Eb q λp mp=>Ih H mr (outs▸mp);rw[outs,si]at this;exact this
      rw[si]at ok;have new:=λZ hK=>NC (n:=n) (x:=x) (K:=λρ σ=>HW (n+2) f ρ σ K) (kT:=kT) (x6:=y6) (x7:=y7) (x8:=y8) (x9:=y9) (x10:=y10) (x11:=y11) (x12:=y12) (x13:=y13) (x14:=qA) (x15:=yq) (x16:=yr) (x17:=Uy) (Z:=Z) hK (ws:=Il) (bP (cJ wm (hV aP _)) OZ) h0 lt hr (H.rows _ mr);rw[<-ok]at new
      cases q:(graph cd).ok s.toNat x with
      |true=>
       have:=new (λo=>∃D,Res (graph cd) D/\tL D o) (ih f (by rw[aE];exact acy hm fm (aa lo (hV aP _))) (Nat.lt_of_succ_lt_succ hf) OZ (La q));rw[q]at this;exact this
      |false=>
       have:=new (λj=>True) λj j j j j j j j j j j j j j=>trivial;rw[q]at this;exact⟨none,L.bad q,this⟩
     |some y=>
      have Eb:d[s.toNat]? =some (some y):=ho▸bN lt;rw[B5 h0 Eb];show∃D,_/\tL D (bif !(y==x)then _ else _)
      by_cases yx:y=x
      ·cases yx;rw[cW];show∃D,_/\tL D ((g8 (n+2) (aU 2 hW)).o _ _ _)
       rw[P4,B5 h0 Eb];exact ih f (gE hm) (Nat.lt_of_succ_lt_succ hf) OZ (L.drop Eb) _ _ _ _ _ _ _ _ _ _ _ _ _ _
      ·rw[beq_false_of_ne yx];exact⟨none,L.two Eb yx,Lo.mk (σH d Il)⟩
    ·rw[aZ (p:=s>=(cd.rows.length:Int)) (Int.not_lt.mp uA)];exact⟨none,L.uA (Int.not_lt.mp uA),Lo.mk (σH d Il)⟩
def fN{g:Nat->Tr}{α:Type}{f:α->Tr}{xs:List α}(h:∀x,sub g (f x)=f x):eE g (xs.map f)=xs.map f:=by
 induction xs with
 |nil=>rfl|cons x xs ih=>exact List.cons_eq_cons.mpr ⟨h x,ih⟩
def Im{n:Nat}{t:Tr}:(List.replicate n [t]).flatten=List.replicate n t:=List.flatten_replicate_singleton
noncomputable def Ax(pl:Tr)(x1 x2 x3:aT):bU:=[some pl,x1,x2,x3,none,none,none,none,none,none,none,none,none,none,none,none,none,none]
def Z5{o:aw}(h:Lo o):o.map (yo 0)=nE []:=by cases h;rfl
def NF{D:Option fy}{o:aw}(h:tL D o):o.map (yo 0)=iF (dT D) []:=by
 cases D with
 |none=>exact Z5 h|some d=>
  rw[show o=iF c0 (σH d [])from h]
  show some (Out.ret (.lst (eE _ (d.map pb))) [])=_
  rw[fN λo=>rfl];rfl
def Io{s ss:S}{ρ:bU}{σ:Sg}{K:gZ}:(g8 n (.cons s ss)).s ρ σ K=(g8 n s).o ρ σ λρ σ=>(g8 n ss).s ρ σ K:=rfl
def Ay:tl 2 cT=.cons (.iG (.cmp (.loc 3) (.jz .NotEq (.list .nil) .nil)) hW) (tl 3 cT):=aO
def Ip:(g8 n (.iG (.cmp (.loc 3) (.jz .NotEq (.list .nil) .nil)) hW)).o=HW n nz:=rfl
def NG{G:Ko}{d:fy}{ws:bz}:toCell (fT (ws.map lG)) G [fT (d.map pb)]=G c1 (σH d ws):=by
 unfold fT σH;rw[au,au];rfl
def acz{ρ:bU}{σ:Sg}:(g8 n (tl 2 cT)).s ρ σ doneK=HW n nz ρ σ λρ σ=>(g8 n (tl 3 cT)).s ρ σ doneK:=by rw[Ay,Io,Ip]
def Az(H:ND cd){kT:ah}:∃D,Res (graph cd) D/\F0 (n+3) 551 [cd.t kT] []=iF (dT D) []:=by
 have nl:cd.rows.length<aq:=by
  have:=H.room;have:cd.rows.length+1<=(cd.rows.length+1)*(3+cd.cats.length):=Nat.le_mul_of_pos_right _ (dI aP (aW 3 _));exact dI (Nat.lt_succ_self _) (aa this (aa (cY _ _) (cM H.room)))
 have e1:F0 (n+3) 551 [cd.t kT] []=((LY [.val .none] ((cd.rows.map Rw.t).length:Int)).bind λts=>oX ts (λt σ=>(g8 (n+2) (tl 1 cT)).s (Ax (cd.t kT) (some (.lst (cd.rows.map Rw.t))) (some t) none) σ doneK) []).map (yo 0):=aO;have m1:LY [.val .none] ((cd.rows.map Rw.t).length:Int)=some ((List.replicate cd.rows.length (none:Option Int)).map pb):=by
  have Iq:aq<2^62:=by decide
  unfold LY;rw[au,av ⟨by rw[Int.toNat_natCast,List.length_singleton,Nat.one_mul];exact cM nl,by rw[Int.natAbs_natCast];exact Nat.lt_trans nl Iq⟩,Int.toNat_natCast,Im,List.map_replicate];rfl
 have e2:∀{σ K},(g8 (n+2) (aU 1 cT)).o (Ax (cd.t kT) (some (.lst (cd.rows.map Rw.t))) (some c0) none) σ K=ifL ((cd.starts.map λs:Nat=>Tr.val (int s)).map (ck true)).length (iQ (litE (.bool true)) (gz (F0 (n+2)) (dW Ak (n+2) true) (.tup (.cons (.loc 17) (.cons (.lit (int 0)) .nil)))).e (Ax (cd.t kT) (some (.lst (cd.rows.map Rw.t))) (some c0) none) [17] ((cd.starts.map λs:Nat=>Tr.val (int s)).map (ck true)) [] σ λus σ=>oX us (λt σ=>K (Ax (cd.t kT) (some (.lst (cd.rows.map Rw.t))) (some c0) (some t)) σ) σ):=by intro σ K;kernel_rfl
 have cm:∀{σ:Sg}{k},iQ (litE (.bool true)) (gz (F0 (n+2)) (dW Ak (n+2) true) (.tup (.cons (.loc 17) (.cons (.lit (int 0)) .nil)))).e (Ax (cd.t kT) (some (.lst (cd.rows.map Rw.t))) (some c0) none) [17] ((cd.starts.map λs:Nat=>Tr.val (int s)).map (ck true)) [] σ k=k ((cd.starts.map λs:Nat=>((s:Int),(0:Int))).map lG) σ:=by
  intro σ k;rw[dq,dq];exact comp_map (g:=λs:Nat=>lG ((s:Int),0)) λx j K K2=>by kernel_rfl
 obtain⟨D,r,h⟩:=UC (n:=n) (K:=λρ σ=>(g8 (n+2) (tl 3 cT)).s ρ σ doneK) H (kT:=kT) (λd j j j j j j j j j j j j j j=>by kernel_rfl) (cd.starts.length+cd.rows.length*(3+cd.cats.length)) nz (d:=List.replicate cd.rows.length none) (ws:=cd.starts.map λs:Nat=>((s:Int),(0:Int)))
  (by
   have fl:=BX (List.replicate cd.rows.length (none:Option Int));rw[List.length_replicate]at fl;have:=Nat.mul_le_mul_right (3+cd.cats.length) fl;rw[au,fg];exact bc this _) (by rw[xG];have:=H.room;rw[Nat.add_mul]at this;lia) (by have:=H.room;rw[Nat.add_mul,Nat.one_mul,<-bf]at this;exact this) j6.init none none none none none none none none none none none none none none
 refine⟨D,r,?_⟩;have sl:cd.starts.length<aq:=bP (aW _ _) H.room;have e3:F0 (n+3) 551 [cd.t kT] []=(HW (n+2) nz (Jw (cd.t kT) (.lst (cd.rows.map Rw.t)) [none,none,none,none,none,none,none,none,none,none,none,none,none,none]) (σH (List.replicate cd.rows.length none) (cd.starts.map λs:Nat=>((s:Int),(0:Int)))) λρ σ=>(g8 (n+2) (tl 3 cT)).s ρ σ doneK).map (yo 0):=by
  rw[e1,m1];show(oX _ _ []).map _=_
  unfold oX;rw[av (by rw[au,List.length_replicate];exact cM nl)];refine ak (Option.map (yo 0)) ?_;show(g8 (n+2) (aU 1 cT)).o (Ax (cd.t kT) (some (.lst (cd.rows.map Rw.t))) (some c0) none) [fT _] (λρ σ=>(g8 (n+2) (tl 2 cT)).s ρ σ doneK)=_
  rw[e2,Av (by rw[au,au];exact sl),cm];unfold oX;rw[av (by rw[au,au];exact cM sl)];exact(NG (G:=λt σ=>(g8 (n+2) (tl 2 cT)).s (Ax (cd.t kT) (some (.lst (cd.rows.map Rw.t))) (some c0) (some t)) σ doneK)).trans acz
 rw[e3];exact NF h
end
def eT(cd:Cd)(out:Nat):Nat:=bif cd.kind==cG then 1+out else 1
def fH(sN:Nat)(DV:Cd):Nat:=bif DV.kind==cG then sN else 0
def gj(cd:Cd)(kinds:aF)(sN:Nat):Bool:=(fA cd.kind kindS&& !cd.starts.isEmpty)&&(cd.rows.all (eX cd.rows.length sN kinds)&&cd.cats.all (kD cd.rows.length))
structure mi(cd:Cd):Prop where
 rows:cd.rows.length<=1000
 cats:cd.cats.length<=1000
 starts:cd.starts.length<=1000
 small:∀r∈cd.rows,r.small=true
 startB:∀s∈cd.starts,s<=1000000
 cat:∀k∈cd.cats,k.depth.natAbs<=1000000/\jo k.sort
inductive d8(cd:Cd)(out:Nat):Option fy->Prop
 |yes (D):gj cd [] (eT cd out)=true->Res (graph cd) D->d8 cd out D
 |no:gj cd [] (eT cd out)=false->d8 cd out none
def Good(cd:Cd)(kids:iC)(out:Nat):Prop:=gj cd (kids.map Cd.kind) (eT cd out)=true/\∀k∈kids,∃d,d8 k (fH (eT cd out) k) (some d)
inductive iD(cd:Cd)(kids:iC)(out:Nat):Option fy->Prop
 |yes (D):Good cd kids out->Res (graph cd) D->iD cd kids out D
 |no:¬Good cd kids out->iD cd kids out none
section
variable{cd:Cd}{kids:iC}{out:Nat}{D D':Option fy}
def iD.uniq(h:iD cd kids out D)(h':iD cd kids out D'):D=D':=by
 cases h with
 |yes _ g r=>cases h' with
  |yes _ _ r'=>exact r.uniq r'|no g'=>exact(g' g).elim
 |no g=>cases h' with
  |yes _ g' _=>exact(g g').elim|no=>rfl
def d8.uniq(h:d8 cd out D)(h':d8 cd out D'):D=D':=by
 cases h with
 |yes _ g r=>cases h' with
  |yes _ _ r'=>exact r.uniq r'|no g'=>rw[g]at g';exact Qu g'
 |no g=>cases h' with
  |yes _ g' _=>rw[g]at g';exact iM g'|no=>rfl
def d8.to(h:iD cd [] out D):d8 cd out D:=by
 cases h with
 |yes _ g r=>exact .yes _ g.1 r|no g=>
  refine .no ?_;cases e:gj cd [] (eT cd out)with
  |false=>rfl|true=>exact(g ⟨e,λj m=>qP m⟩).elim
end
section
variable{n:Nat}{σ:Sg}{cd:Cd}{kids:iC}{out:Nat}{K:gZ}{x8:aT}{c:Ct}{y9 y10 y11 y12 y13 qA:aT}
def NH{xs:ah}:eqT σ (.lst xs) (.lst [])=some xs.isEmpty:=by cases xs<;>rfl
def fX(cd:Cd)(kT:ah)(out:Nat)(xs:bU):bU:=some (cd.t kT)::some (cx out)::some (.val (str cd.kind))::some (.val (int 2))::some (.lst (cd.rows.map Rw.t))::some (.lst (cd.cats.map Ct.t))::some (.lst kT)::some (startT cd.starts)::xs
def Z6{kT:ah}:F0 (n+1) 556 [cd.t kT,cx out] σ=dy n (tl 1 bT) (fX cd kT out [none,none,none,none,none,none,none,none]) σ doneK:=aO
def Z7{kT:ah}(ho:out<=1):dy n (tl 1 bT) (fX cd kT out [none,none,none,none,none,none,none,none]) σ K=dy n (tl 2 bT) (fX cd kT out [some (cx (eT cd out)),none,none,none,none,none,none,none]) σ K:=by
 have e:∀o:Nat,o=0\/o=1->dy n (tl 1 bT) (fX cd kT o [none,none,none,none,none,none,none,none]) σ K=bif cd.kind==cG then dy n (tl 2 bT) (fX cd kT o [some (cx (1+o)),none,none,none,none,none,none,none]) σ K else dy n (tl 2 bT) (fX cd kT o [some (cx 1),none,none,none,none,none,none,none]) σ K:=λo h=>by rcases h with rfl|rfl<;>kernel_rfl
 rw[e out (by lia)];unfold eT;cases cd.kind==cG<;>rfl
def Z8{kT:ah}{xs:bU}:dy n (tl 2 bT) (fX cd kT out xs) σ K=bif fA cd.kind kindS&& !cd.starts.isEmpty then dy n (tl 3 bT) (fX cd kT out xs) σ K else nE σ:=by
 have e:dy n (tl 2 bT) (fX cd kT out xs) σ K=bif !(fA cd.kind kindS)then nE σ else(eqT σ (startT cd.starts) (.lst [])).bind λb=>bif b then nE σ else dy n (tl 3 bT) (fX cd kT out xs) σ K:=aO
 have e2:∀l:aC,eqT σ (startT l) (.lst [])=some l.isEmpty:=λl=>by cases l<;>rfl
 rw[e,e2,j8];cases fA cd.kind kindS<;>cases cd.starts.isEmpty<;>rfl
def filter_all{α:Type}{p:α->Bool}{f:α->Tr}{xs:List α}:((xs.filter λx=> !(p x)).map f).isEmpty=xs.all p:=by
 induction xs with
 |nil=>rfl|cons x xs ih=>
  show _=(p x&&xs.all p)
  cases h:p x with
  |false=>rw[List.filter_cons_of_pos (by rw[h];rfl)];rfl|true=>rw[List.filter_cons_of_neg (by rw[h];nofun)];exact ih
def Z9(l:cd.rows.length<aq){sN:Nat}:dy (n+5) (tl 3 bT) (fX cd (kids.map Cd.t0) out [some (cx sN),none,none,none,none,none,none,none]) σ K=bif cd.rows.all (eX cd.rows.length sN (kids.map Cd.kind))then dy (n+5) (tl 4 bT) (fX cd (kids.map Cd.t0) out [some (cx sN),none,none,none,none,none,none,none]) σ K else nE σ:=by
 have e:dy (n+5) (tl 3 bT) (fX cd (kids.map Cd.t0) out [some (cx sN),none,none,none,none,none,none,none]) σ K=ifL ((cd.rows.map Rw.t).map (ck true)).length (iQ (gz (F0 (n+5)) (dW Ak (n+5) true) (.not (.call (.glob (.ref 546)) (.cons (.loc 0) (.cons (.loc 8) (.cons (.loc 15) .nil)))))).e (Tj 15)
   (fX cd (kids.map Cd.t0) out [some (cx sN),none,none,none,none,none,none,none]) [15] ((cd.rows.map Rw.t).map (ck true)) [] σ λus σ=>(jw σ .NotEq (.lst us) (.lst [])).bind λb=>bif b then nE σ else dy (n+5) (tl 4 bT) (fX cd (kids.map Cd.t0) out [some (cx sN),none,none,none,none,none,none,none]) σ K):=aO
 rw[e,dq,au,Av l,xS (p:=λr=> !(eX cd.rows.length sN (kids.map Cd.kind) r)) (g:=Rw.t) λr j K K2=>(show _=dF (F0 (n+5) 546 [cd.t (kids.map Cd.t0),cx sN,r.t] σ) (λt σ=>BD t λb=>bif !b then K r.t σ else K2 σ) by kernel_rfl).trans (cn Au rfl)];show((eqT σ (.lst ([]++_)) (.lst [])).map (!·)).bind _=_
 rw[NH,List.nil_append,filter_all];exact j8
def NI:gy (fX cd (kids.map Cd.t0) out [x8,y9,y10,y11,y12,y13,none,none]) [9,10,11,12,13] (ck false c.t) (λρ=>dy n (m8 (aU 4 bT)) ρ σ K)=
  bif kD cd.rows.length c then K (fX cd (kids.map Cd.t0) out [x8,some (.val (str c.sort)),some (.val (int c.first)),some (.val (int c.last)),some (.val (int c.target)),some (.val (int c.depth)),none,none]) σ else nE σ:=by
 refine Eq.trans (b:=bif c.sort==kY then nE σ else bif decide ((0:Int)<=c.first)then(bif decide (c.first<c.last)then(bif !(decide (c.last<=((cd.rows.map Rw.t).length:Int)))then nE σ else
  (bif decide ((0:Int)<=c.target)then(bif !(decide (c.target<((cd.rows.map Rw.t).length:Int)))then nE σ else(bif decide (c.depth<0)then nE σ else K (fX cd (kids.map Cd.t0) out [x8,some (.val (str c.sort)),some (.val (int c.first)),some (.val (int c.last)),some (.val (int c.target)),some (.val (int c.depth)),none,none]) σ))else nE σ))else nE σ)else nE σ) (aO) ?_
 rw[au];exact uE
def Z':∃ρ',(∃y9 y10 y11 y12 y13,ρ'=fX cd (kids.map Cd.t0) out [x8,y9,y10,y11,y12,y13,none,none])/\dy n (tl 4 bT) (fX cd (kids.map Cd.t0) out [x8,none,none,none,none,none,none,none]) σ K=bif cd.cats.all (kD cd.rows.length)then dy n (tl 5 bT) ρ' σ K else nE σ:=by
 obtain⟨ρ',h,e⟩:=qM (k:=λρ σ=>dy n (tl 5 bT) ρ σ K) (R:=nE σ) (σ:=σ) (b:=dy n (m8 (aU 4 bT))) (tg:=[9,10,11,12,13]) (f:=λc:Ct=>ck false c.t) (p:=kD cd.rows.length) (xs:=cd.cats) (inv:=λρ'=>∃y9 y10 y11 y12 y13,ρ'=fX cd (kids.map Cd.t0) out [x8,y9,y10,y11,y12,y13,none,none])
  ⟨none,none,none,none,none,rfl⟩ λc j ρ hρ=>by
   obtain⟨y9,y10,y11,y12,y13,rfl⟩:=hρ;exact⟨_,⟨_,_,_,_,_,rfl⟩,λK=>NI⟩
 refine⟨ρ',h,(show _=iZ (dy n (m8 (aU 4 bT))) [9,10,11,12,13] ((cd.cats.map Ct.t).map (ck false)) (fX cd (kids.map Cd.t0) out [x8,none,none,none,none,none,none,none]) σ (λρ σ=>dy n (tl 5 bT) ρ σ K) by kernel_rfl).trans ?_⟩;rw[dq];exact e
def NJ{k:Cd}{sN:Nat}{D:Option fy}(h:F0 n 556 [k.t0,cx (fH sN k)] σ=iF (dT D) σ):gy (fX cd (kids.map Cd.t0) out [some (cx sN),y9,y10,y11,y12,y13,qA,none]) [14] (ck true k.t0) (λρ=>dy n (m8 (aU 5 bT)) ρ σ K)=
  bif D.isSome then K (fX cd (kids.map Cd.t0) out [some (cx sN),y9,y10,y11,y12,y13,some k.t0,none]) σ else nE σ:=by
 have e:gy (fX cd (kids.map Cd.t0) out [some (cx sN),y9,y10,y11,y12,y13,qA,none]) [14] (ck true k.t0) (λρ=>dy n (m8 (aU 5 bT)) ρ σ K)=bif k.kind==cG then dF (F0 n 556 [k.t0,cx sN] σ) (λt σ=>(jw σ .Is t (.val .none)).bind λb=>bif b then nE σ else K (fX cd (kids.map Cd.t0) out [some (cx sN),y9,y10,y11,y12,y13,some k.t0,none]) σ)
  else dF (F0 n 556 [k.t0,cx 0] σ) (λt σ=>(jw σ .Is t (.val .none)).bind λb=>bif b then nE σ else K (fX cd (kids.map Cd.t0) out [some (cx sN),y9,y10,y11,y12,y13,some k.t0,none]) σ):=aO
 rw[e];unfold fH at h;have fin:dF (iF (dT D) σ) (λt σ=>(jw σ .Is t (.val .none)).bind λb=>bif b then nE σ else K (fX cd (kids.map Cd.t0) out [some (cx sN),y9,y10,y11,y12,y13,some k.t0,none]) σ)=bif D.isSome then K (fX cd (kids.map Cd.t0) out [some (cx sN),y9,y10,y11,y12,y13,some k.t0,none]) σ else nE σ:=by cases D<;>rfl
 cases q:k.kind==cG with
 |true=>rw[q]at h;exact(ak (dF · _) h).trans fin|false=>rw[q]at h;exact(ak (dF · _) h).trans fin
open Classical in
def i8(k:Cd)(o:Nat):Option fy:=if h:∃D,d8 k o D then choose h else none
def o5{k:Cd}{o:Nat}{D:Option fy}(h:d8 k o D):i8 k o=D:=by
 unfold i8;rw[dif_pos ⟨D,h⟩];exact(Classical.choose_spec ⟨D,h⟩).uniq h
def NK{k:Cd}{o:Nat}{D:Option fy}(h:d8 k o D):d8 k o (i8 k o):=o5 h▸h
def aaa{sN:Nat}(hk:∀k∈kids,F0 n 556 [k.t0,cx (fH sN k)] σ=iF (dT (i8 k (fH sN k))) σ):∃ρ',(∃qA,ρ'=fX cd (kids.map Cd.t0) out [some (cx sN),y9,y10,y11,y12,y13,qA,none])/\
  dy n (tl 5 bT) (fX cd (kids.map Cd.t0) out [some (cx sN),y9,y10,y11,y12,y13,none,none]) σ K=bif kids.all (λk=>(i8 k (fH sN k)).isSome)then dy n (tl 6 bT) ρ' σ K else nE σ:=by
 obtain⟨ρ',h,e⟩:=qM (k:=λρ σ=>dy n (tl 6 bT) ρ σ K) (R:=nE σ) (σ:=σ) (b:=dy n (m8 (aU 5 bT))) (tg:=[14]) (f:=λc:Cd=>ck true c.t0) (p:=λk=>(i8 k (fH sN k)).isSome) (xs:=kids) (inv:=λρ'=>∃qA,ρ'=fX cd (kids.map Cd.t0) out [some (cx sN),y9,y10,y11,y12,y13,qA,none])
  ⟨none,rfl⟩ λc m ρ hρ=>by
   obtain⟨qA,rfl⟩:=hρ;exact⟨_,⟨_,rfl⟩,λK=>NJ (hk c m)⟩
 refine⟨ρ',h,(show _=iZ (dy n (m8 (aU 5 bT))) [14] ((kids.map Cd.t0).map (ck true)) (fX cd (kids.map Cd.t0) out [some (cx sN),y9,y10,y11,y12,y13,none,none]) σ (λρ σ=>dy n (tl 6 bT) ρ σ K) by kernel_rfl).trans ?_⟩;rw[dq];exact e
def xV{kinds:aF}{sN:Nat}(b:mi cd)(h1:cd.rows.all (eX cd.rows.length sN kinds)=true)(h2:cd.cats.all (kD cd.rows.length)=true):ND cd:=by
 refine⟨λr m=>(aA (bQ h1 r m)).1,λk m=>?_,?_⟩
 ·have:=bQ h2 k m;exact cf (aA (aA (aA (aA (aA this).2).2).2).2).1
 ·have h1:=b.rows;have h2:=b.cats;have h3:=b.starts;have:(cd.rows.length+1)*(3+cd.cats.length)<=1001*1003:=Nat.mul_le_mul (Nat.succ_le_succ h1) (bc h2 3);exact bP (cJ h3 this) aP
def AA(ho:out<=1)(b:mi cd)(hk:∀k∈kids,∀o,o=fH (eT cd out) k->∃D,d8 k o D/\F0 (n+5) 556 [k.t0,cx o] []=iF (dT D) []):∃D,iD cd kids out D/\F0 (n+6) 556 [cd.t (kids.map Cd.t0),cx out] []=iF (dT D) []:=by
 have l:cd.rows.length<aq:=bP b.rows aP;have hk':∀k∈kids,d8 k (fH (eT cd out) k) (i8 k (fH (eT cd out) k))/\F0 (n+5) 556 [k.t0,cx (fH (eT cd out) k)] []=iF (dT (i8 k (fH (eT cd out) k))) []:=λk m=>by
  obtain⟨D,h1,h2⟩:=hk k m _ rfl;exact⟨NK h1,by rw[o5 h1];exact h2⟩
 obtain⟨ρ4,⟨y9,y10,y11,y12,y13,rfl⟩,e4⟩:=Z' (n:=n+5) (σ:=[]) (cd:=cd) (kids:=kids) (out:=out) (K:=doneK) (x8:=some (cx (eT cd out)));obtain⟨ρ5,⟨qA,rfl⟩,e5⟩:=aaa (n:=n+5) (σ:=[]) (cd:=cd) (kids:=kids) (out:=out) (K:=doneK) (y9:=y9) (y10:=y10) (y11:=y11) (y12:=y12) (y13:=y13) (sN:=eT cd out) λk m=>(hk' k m).2;rw[Z6,Z7 ho,Z8,Z9 l,e4,e5];have bad:¬Good cd kids out->∃D,iD cd kids out D/\nE []=iF (dT D) []:=λg=>⟨none,.no g,rfl⟩
 have gd:Good cd kids out->(fA cd.kind kindS&& !cd.starts.isEmpty)=true/\cd.rows.all (eX cd.rows.length (eT cd out) (kids.map Cd.kind))=true/\cd.cats.all (kD cd.rows.length)=true:=λg=>by
  have:=g.1;unfold gj at this;exact⟨(aA this).1,aA (aA this).2⟩
 cases q1:fA cd.kind kindS&& !cd.starts.isEmpty with
 |false=>exact bad λg=>by have:=(gd g).1;rw[q1]at this;exact iM this
 |true=>cases q2:cd.rows.all (eX cd.rows.length (eT cd out) (kids.map Cd.kind))with
  |false=>exact bad λg=>by have:=(gd g).2.1;rw[q2]at this;exact iM this
  |true=>cases q3:cd.cats.all (kD cd.rows.length)with
   |false=>exact bad λg=>by have:=(gd g).2.2;rw[q3]at this;exact iM this
   |true=>cases q4:kids.all λk=>(i8 k (fH (eT cd out) k)).isSome with
    |false=>
     refine bad λg=>?_;have:(kids.all λk=>(i8 k (fH (eT cd out) k)).isSome)=true:=List.all_eq_true.mpr λk m=>by
      obtain⟨d,h⟩:=g.2 k m;rw[o5 h];rfl
     rw[q4]at this;exact iM this
    |true=>
     obtain⟨D,r,e⟩:=Az (n:=n+2) (xV b q2 q3) (kT:=kids.map Cd.t0);refine⟨D,.yes D ⟨by unfold gj;rw[q1,q2,q3];rfl,λk m=>?_⟩ r,(show _=dF (F0 (n+5) 551 [cd.t (kids.map Cd.t0)] []) iF by kernel_rfl).trans (cn e rfl)⟩;have s:=bQ q4 k m;obtain⟨d,hd⟩:=Option.isSome_iff_exists.mp s;exact⟨d,hd▸(hk' k m).1⟩
end
inductive Pre:Sg->Prop
 |zero:Pre []
 |two (a b):Pre [a,b]
def qB(i:Nat):Tr:=.val (int i)
def σC(pre:Sg)(d:fy)(ws:aC):Sg:=pre++[.buf none (d.map pb) 0,.buf none (ws.map qB) (aq-ws.length)]
noncomputable abbrev dC(pre:Sg):Tr:=.cell pre.length
noncomputable abbrev wC(pre:Sg):Tr:=.cell (pre.length+1)
abbrev cP(cd:Cd)(kT seen:ah)(pre:Sg):Tr:=fE cd kT seen (dC pre) (wC pre)
section
variable{n:Nat}{σ pre:Sg}{cd:Cd}{kT seen:ah}{d:fy}{ws:aC}{w:Tr}{j y x o:Int}{i:Nat}{K:Sg->aw}{t:Tr}
def aab(hp:Pre pre)(l:ws.length<aq):Ib (σC pre d ws) (wC pre) (qB i) K=K (σC pre d (ws++[i])):=by
 have e:aq-ws.length=(aq-(ws++[i]).length)+1:=by rw[aE];show _=aq-(ws.length+1)+1;lia
 have:mH (σC pre d ws) (wC pre) (qB i)=some (σC pre d (ws++[i])):=by
  unfold σC;rw[e,bM];cases hp<;>rfl
 unfold Ib;rw[this];rfl
def aac(hp:Pre pre)(l:ws.length<aq):z9 (σC pre d (ws++[i])) (wC pre)=some (qB i,σC pre d ws):=by
 have e:aq-(ws++[i]).length+1=aq-ws.length:=by rw[aE];exact LI l
 have q:z8 ((ws++[i]).map qB)=some (qB i,ws.map qB):=by
  unfold z8;rw[bM,show [i].map qB=[qB i]from rfl,List.getLast?_concat,List.dropLast_concat];rfl
 have:∀k,z9 (σC pre d (ws++[i])) (wC pre)=((z8 ((ws++[i]).map qB)).map λq=>(q.1,Cn.buf none q.2 (aq-(ws++[i]).length+1))).map (λy=>(y.1,(σC pre d (ws++[i])).set (pre.length+k) y.2))\/k≠1:=λk=>by
  by_cases h:k=1
  ·subst h;cases hp<;>exact .inl rfl
  ·exact .inr h
 rw[(this 1).resolve_right λh=>h rfl,q,e];unfold σC;cases hp<;>rfl
def Ir(hp:Pre pre){o:Option Int}(h:0<=j)(e:d[j.toNat]? =some o):fq (σC pre d ws) (dC pre) (.val (int j))=some (pb o):=by
 refine Eq.trans ?_ (idx_map (σ:=σC pre d ws) (f:=pb) h e);cases hp<;>rfl
def aad(hp:Pre pre)(h:0<=j)(l:j.toNat<d.length):sh (σC pre d ws) (dC pre) (.val (int j)) (.val (int y))=some (σC pre (d.set j.toNat (some y)) ws):=by
 have:sh (σC pre d ws) (dC pre) (.val (int j)) (.val (int y))=(if 0<=j/\j<(d.map pb).length then some (Cn.buf none ((d.map pb).set j.toNat (.val (int y))) 0)else none).map ((σC pre d ws).set pre.length):=by cases hp<;>rfl
 rw[this,av ⟨h,by rw[au];lia⟩];unfold σC;rw[List.map_set];cases hp<;>rfl
def tM(i:Int):Prop:=i.natAbs<2^40
def NL(h:tM o):Mk (.val (int o))=some (.txt 20):=av h
def AB(i:Int)(k:Ko)(σ:Sg):aw:=((Mk (.val (int i))).map λx=>(x,σ)).bind λq=>Mx q k
def vR{k:Ko}(h:tM o):AB o k σ=k (.txt 20) σ:=by unfold AB;rw[NL h];rfl
def UD{d w r:Tr}:F0 (n+1) 357 [fE cd kT seen d w,.val (int o),r] σ=AB o (λu σ=>(mX σ .Add (.txt 6) u).bind λa=>(mX σ .Add a (.val (str (k' ": ")))).bind λb=>(mX σ .Add b r).bind λm=>(qc m).bind λj=>dp) σ:=aO
def qN{d w r:Tr}(h:tM o){k:Nat}(hr:qc r=some k)(l:k<=1000):F0 (n+1) 357 [fE cd kT seen d w,.val (int o),r] σ=dp:=by
 rw[UD,vR h];show(mX σ .Add (.txt 28) r).bind _=dp
 have:mX σ .Add (.txt 28) r=some (.txt (28+k)):=by
  show(qc r).bind _=_
  rw[hr];exact av ⟨rfl,aa (bc l 28) aP⟩
 rw[this];rfl
def NM(hp:Pre pre):F0 (n+2) 364 [cP cd kT seen pre,.val (int j),.val (int y),.val (int o)] σ=bif decide ((0:Int)<=j)then(bif !(decide (j<((cd.rows.map Rw.o).length:Int)))then bL (F0 (n+1) 357 [cP cd kT seen pre,.val (int o),.val (str (k' "goes on beyond the rows"))] σ)
   (λσ=>(fq σ (dC pre) (.val (int j))).bind λt=>dy (n+1) (tl 2 cQ) [some (cP cd kT seen pre),some (.val (int j)),some (.val (int y)),some (.val (int o)),some t] σ doneK)else(fq σ (dC pre) (.val (int j))).bind λt=>dy (n+1) (tl 2 cQ) [some (cP cd kT seen pre),some (.val (int j)),some (.val (int y)),some (.val (int o)),some t] σ doneK)
  else bL (F0 (n+1) 357 [cP cd kT seen pre,.val (int o),.val (str (k' "goes on beyond the rows"))] σ) (λσ=>(fq σ (dC pre) (.val (int j))).bind λt=>dy (n+1) (tl 2 cQ) [some (cP cd kT seen pre),some (.val (int j)),some (.val (int y)),some (.val (int o)),some t] σ doneK):=by
 kernel_rfl
def AD:dy (n+1) (tl 2 cQ) [some (cP cd kT seen pre),some (.val (int j)),some (.val (int y)),some (.val (int o)),some (.val .none)] σ doneK=(sh σ (dC pre) (.val (int j)) (.val (int y))).bind λσ=>dy (n+1) (.cons (.expr (.jU (.attr (.loc 0) .waiting) .append (.cons (.loc 1) .nil))) .nil) [some (cP cd kT seen pre),some (.val (int j)),some (.val (int y)),some (.val (int o)),some (.val .none)] σ doneK:=aO
def DW(hp:Pre pre):dy (n+1) (.cons (.expr (.jU (.attr (.loc 0) .waiting) .append (.cons (.loc 1) .nil))) .nil) [some (cP cd kT seen pre),some (.val (int j)),some (.val (int y)),some (.val (int o)),some (.val .none)] (σC pre d ws) doneK=Ib (σC pre d ws) (wC pre) (.val (int j)) qz:=by cases hp<;>kernel_rfl
def AE:dy (n+1) (tl 2 cQ) [some (cP cd kT seen pre),some (.val (int j)),some (.val (int y)),some (.val (int o)),some (.val (int x))] σ doneK=bif !(x==y)then AB x (λu σ=>(mX σ .Add (.val (str (k' "a stack of "))) u).bind λa=>(mX σ .Add a (.val (str (k' " and of ")))).bind λb=>AB y (λv σ=>(mX σ .Add b v).bind λm=>bL (F0 (n+1) 357 [cP cd kT seen pre,.val (int j),m] σ) qz) σ) σ else qz σ:=aO
end
structure Sd(cd:Cd)(d:fy)(ws:aC):Prop where
 inv:jI (graph cd) d ws
 high:∀(i:Nat) x,d[i]? =some (some x)->x.natAbs<=10000000*(cd.rows.length-free d)
 room:ws.length+free d<=cd.rows.length
structure Rx(cd:Cd)(d:fy)(ws:aC)(d':fy)(pR:aC):Prop where
 sd:Sd cd d' pR
 grow:sC d ws d' pR
 less:free d'*2+pR.length<=free d*2+ws.length
 fr:free d'<=free d
section
variable{n:Nat}{pre:Sg}{cd:Cd}{kT seen:ah}{d d' d2:fy}{ws pR ws2:aC}{j y x o:Int}{i:Nat}{K:Sg->aw}{Z:aw->Prop}{r:Rw}
def Rx.refl(S:Sd cd d ws):Rx cd d ws d ws:=⟨S,.refl d ws,aH _,aH _⟩
def Rx.trans(a:Rx cd d ws d' pR)(b:Rx cd d' pR d2 ws2):Rx cd d ws d2 ws2:=⟨b.sd,a.grow.trans b.grow,aa b.less a.less,aa b.fr a.fr⟩
def Sd.gY(S:Sd cd d ws)(b:mi cd)(e:d[i]? =some (some x)):tM x:=by
 have h:=S.high i x e;have:10000000*(cd.rows.length-free d)<=10000000*1000:=hX _ (aa (Nat.sub_le ..) b.rows);exact bP (aa h this) aP
def Sd.put(S:Sd cd d ws)(r:sX (graph cd) j y)(h0:0<=j)(f:d[j.toNat]? =some none)(hy:y.natAbs<=10000000*(cd.rows.length-free d+1)):Rx cd d ws (d.set j.toNat (some y)) (ws++[j.toNat])/\qf (d.set j.toNat (some y)) j y:=by
 obtain⟨c,g,a⟩:=S.inv.reach r h0 f;have fs:=xI (x:=y) f;have fl:=BX d;have ln:d.length=cd.rows.length:=S.inv.len;have lw:(ws++[j.toNat]).length=ws.length+1:=aE;have rm:=S.room;refine⟨⟨⟨c,λi x e=>?_,by rw[lw,Nat.add_right_comm,bf,fs];exact rm⟩,g,by rw[lw,<-fs,Nat.add_mul,bf];exact bc (fg 2 _▸Nat.le_succ _) _,Nat.le.intro fs⟩,a⟩;have e2:cd.rows.length-free (d.set j.toNat (some y))=cd.rows.length-free d+1:=by rw[<-fs];exact(LI (dI (Nat.le_of_eq fs) (ln▸fl))).symm
 rw[e2];by_cases z:j.toNat=i
 ·subst z;rw[List.getElem?_set_self (dO f).1]at e;cases e;exact hy
 ·rw[hR z]at e;exact aa (S.high i x e) (hX _ (Nat.le_succ _))
def qO(hp:Pre pre)(hb:Res (graph cd) none->Z dp)(b:mi cd)(S:Sd cd d ws)(r:sX (graph cd) j y)(hy:y.natAbs<=10000000*(cd.rows.length-free d+1))(ho:tM o)
  (hK:∀d' pR,Rx cd d ws d' pR->qf d' j y->Z (K (σC pre d' pR))):Z (bL (F0 (n+2) 364 [cP cd kT seen pre,.val (int j),.val (int y),.val (int o)] (σC pre d ws)) K):=by
 have ln:d.length=cd.rows.length:=S.inv.len;have br:=b.rows;have yl:10000000*(cd.rows.length-free d+1)<=10000000*1001:=hX _ (Nat.succ_le_succ (aa (Nat.sub_le ..) br));have ys:tM y:=bP (aa hy yl) aP;rw[NM hp,au,qN (k:=23) ho rfl aP];by_cases h0:0<=j
 ·rw[aZ h0];by_cases hN:j<(cd.rows.length:Int)
  ·rw[aZ hN];have lt:j.toNat<d.length:=by rw[ln];exact(Int.toNat_lt h0).mpr hN
   have js:tM j:=bP (SG h0 (Int.le_trans (Int.le_of_lt hN) (eU.mpr br)):j.natAbs<=1000) aP
   show Z (bL ((fq _ _ _).bind _) K)
   cases Eb:d[j.toNat]with
   |none=>
    have f:d[j.toNat]? =some none:=Eb▸bN lt;rw[Ir hp h0 f]
    show Z (bL (dy (n+1) (tl 2 cQ) [some (cP cd kT seen pre),some (.val (int j)),some (.val (int y)),some (.val (int o)),some (.val .none)] _ doneK) K)
    rw[AD,aad hp h0 lt]
    show Z (bL (dy _ _ _ (σC pre (d.set j.toNat (some y)) ws) doneK) K)
    have e:Tr.val (int j)=qB j.toNat:=by show _=Tr.val (int (j.toNat:Int));rw[Int.toNat_of_nonneg h0]
    have rm:=S.room;rw[DW hp,e,aab hp (bP (aa (aW ..) (aa rm br)) aP)];obtain⟨rx,a⟩:=S.put r h0 f hy;exact hK _ _ rx a
   |some x=>
    have f:d[j.toNat]? =some (some x):=Eb▸bN lt;rw[Ir hp h0 f]
    show Z (bL (dy (n+1) (tl 2 cQ) [some (cP cd kT seen pre),some (.val (int j)),some (.val (int y)),some (.val (int o)),some (.val (int x))] _ doneK) K)
    rw[AE];by_cases xy:x=y
    ·subst xy;rw[cW];exact hK d ws (.refl S) ⟨h0,f⟩
    ·rw[beq_false_of_ne xy]
     show Z (bL (AB x _ _) K)
     rw[vR (S.gY b f)]
     show Z (bL (AB y _ _) K)
     rw[vR ys]
     show Z (bL (bL (F0 (n+1) 357 [cP cd kT seen pre,.val (int j),.txt 59] _) qz) K)
     rw[qN (k:=59) js rfl aP];exact hb (S.inv.two r h0 f xy)
  ·rw[b9 hN];exact hb (jI.uA r λ⟨_,q⟩=>hN q)
 ·rw[b9 h0];exact hb (jI.uA r λ⟨q,_⟩=>h0 q)
end
def xW:S:=m8 (aU 5 aK)
section
variable{n:Nat}{pre σ:Sg}{cd:Cd}{kT seen:ah}{x t p i:Int}{K:gZ}{r:Rw}{c:Ct}{x2 x4 x5 x6:aT}
abbrev stE(cd:Cd)(kT seen:ah)(pre:Sg)(i x:Int)(x2 x4 x5 x6:aT):bU:=[some (cP cd kT seen pre),some (.val (int i)),x2,some (.val (int x)),x4,x5,x6]
def UE:F0 (n+1) 390 [cP cd kT seen pre,.val (int i)] σ=(fq σ (.lst (cd.rows.map Rw.o)) (.val (int i))).bind λr=>(fq σ (dC pre) (.val (int i))).bind λt=>dy n (tl 1 aK) [some (cP cd kT seen pre),some (.val (int i)),some r,some t,none,none,none] σ doneK:=aO
def UG:dy n (tl 1 aK) (stE cd kT seen pre i x (some r.o) none none none) σ K=dF (F0 n 298 [r.o] σ) (tupK [4,5] (stE cd kT seen pre i x (some r.o) none none none) λρ σ=>dy n (tl 2 aK) ρ σ K):=aO
abbrev sP(cd:Cd)(kT seen:ah)(pre:Sg)(i x:Int)(r:Rw)(t p:Int)(x6:aT):bU:=stE cd kT seen pre i x (some r.o) (some (.val (int t))) (some (.val (int p))) x6
def UH:dy n (tl 2 aK) (sP cd kT seen pre i x r t p none) σ K=bif decide (x<t)then bL (F0 n 357 [cP cd kT seen pre,.val (int i),.val (str (k' "the stack is too low"))] σ) (λσ=>dy n (tl 3 aK) (sP cd kT seen pre i x r t p none) σ K)else dy n (tl 3 aK) (sP cd kT seen pre i x r t p none) σ K:=aO
def UI:dy n (tl 3 aK) (sP cd kT seen pre i x r t p none) σ K=bif fA r.op fM then bL (F0 n 364 [cP cd kT seen pre,r.a.t,.val (int (x-t+p)),.val (int i)] σ) (λσ=>dy n (tl 4 aK) (sP cd kT seen pre i x r t p none) σ K)else dy n (tl 4 aK) (sP cd kT seen pre i x r t p none) σ K:=aO
def UJ:dy n (tl 4 aK) (sP cd kT seen pre i x r t p none) σ K=bif !(fA r.op o4)then bL (F0 n 364 [cP cd kT seen pre,.val (int (i+1)),.val (int (x-t+p)),.val (int i)] σ) (λσ=>dy n (tl 5 aK) (sP cd kT seen pre i x r t p none) σ K)else dy n (tl 5 aK) (sP cd kT seen pre i x r t p none) σ K:=aO
def UK:dy n (tl 5 aK) (sP cd kT seen pre i x r t p none) σ K=iZ (dy n xW) [6] ((cd.cats.map Ct.o).map (ck true)) (sP cd kT seen pre i x r t p none) σ K:=aO
def UL:F0 (n+1) 112 [c.o,.val (int i)] σ=tB (gU i c) σ:=by
 have:F0 (n+1) 112 [c.o,.val (int i)] σ=bif decide (c.first<=i)then tB (decide (i<c.last)) σ else tB false σ:=aO
 rw[this];unfold gU;cases decide (c.first<=i)<;>rfl
def Iu:gy (sP cd kT seen pre i x r t p x6) [6] (ck true c.o) (λρ=>dy n xW ρ σ K)=dF (F0 n 112 [c.o,.val (int i)] σ) λu σ=>BD u λb=>bif b then(bif decide (x<c.depth)then bL (F0 n 357 [cP cd kT seen pre,.val (int i),.val (str (k' "the stack is lower than that of a catch"))] σ)
  (λσ=>bL (F0 n 364 [cP cd kT seen pre,.val (int c.target),.val (int (c.depth+1)),.val (int i)] σ) (K (sP cd kT seen pre i x r t p (some c.o))))else bL (F0 n 364 [cP cd kT seen pre,.val (int c.target),.val (int (c.depth+1)),.val (int i)] σ) (K (sP cd kT seen pre i x r t p (some c.o))))else K (sP cd kT seen pre i x r t p (some c.o)) σ:=aO
end
section
variable{o:bV}{r:Rw}
def kZ{a b:Int}{m k:Nat}(h1:a.natAbs<=m)(h2:b.natAbs<=k):(a+b).natAbs<=m+k:=aa (Int.natAbs_add_le a b) (cJ h1 h2)
def UM{a b:Int}{m k:Nat}(h1:a.natAbs<=m)(h2:b.natAbs<=k):(a-b).natAbs<=m+k:=aa (Int.natAbs_sub_le a b) (cJ h1 h2)
def num{m k:Nat}(h:Nat.ble m k=true){a:Nat}(l:a<=m):a<=k:=aa l (bg h)
def sQ(h:o.small=true):o.i0.natAbs<=1000000:=by
 cases o with
 |int i=>exact cf h|bool b=>cases b<;>exact bg rfl|_=>exact bO _
def qk{i:Int}(h:i.natAbs<=1000000):(gq i).natAbs<=1000000:=by
 unfold gq
 cases i==-1 with
 |true=>exact bg rfl|false=>exact h
def P6{b:Bool}:(bif b then(1:Int)else 0).natAbs<=1:=by cases b<;>decide
def AF:o.jK.natAbs<=1:=by
 cases o with
 |str s=>exact P6|_=>exact bO _
def UN:o.vL.natAbs<=1:=by cases o<;>exact bg rfl
def NN(p:Int×Int):Prop:=p.1.natAbs<=2000003/\p.2.natAbs<=2000003
def xX{s:Sp}{a b c:bV}(ha:a.i0.natAbs<=1000000)(hb:b.i0.natAbs<=1000000)(hc:c.i0.natAbs<=1000000):NN (P0 s a b c):=by
 have ga:=qk ha;have gb:=qk hb;have p1:=AF (o:=a);have p2:=AF (o:=b);have p3:=AF (o:=c.snd);have p4:=UN (o:=b);have n1:NN (0,1):=⟨bO _,bg rfl⟩
 cases s with
 |list=>exact⟨num rfl ha,n1.2⟩|texts=>exact⟨num rfl ha,n1.2⟩|table=>exact⟨num rfl (show(2*a.i0).natAbs<=2000000 by rw[Int.natAbs_mul];exact hX 2 ha),n1.2⟩|Ao=>exact⟨num rfl (kZ (aH 1) ha),num rfl (kZ (aH 2) ha)⟩|send=>exact⟨num rfl (kZ (kZ (aH 1) gb) p3),n1.2⟩|super=>exact⟨num rfl (kZ ga p2),n1.2⟩|nZ=>exact⟨num rfl p1,n1.2⟩|yield=>exact⟨num rfl ga,n1.2⟩|cls=>exact⟨num rfl hc,n1.2⟩|ik=>exact⟨num rfl (P6 (b:=a.among An)),n1.2⟩|eO=>exact⟨bg rfl,num rfl (kZ (kZ ha p4) hc)⟩
def DX(h:r.small=true):NN (dY r):=by
 have h:=aA h;have h2:=aA h.2;have h3:=aA h2.2;unfold dY
 cases ZD r.op with
 |some s=>exact xX (sQ h.1) (sQ h2.1) (sQ h3.1)|none=>
  show NN (match tab.lookup r.op with|some e=>(e.2.1,e.2.2)|none=>(0,0))
  have t:(tab.all λe=>Nat.ble e.2.2.1.natAbs 2000003&&Nat.ble e.2.2.2.natAbs 2000003)=true:=aO
  cases e:tab.lookup r.op with
  |none=>exact⟨bO _,bO _⟩|some e'=>
   have:=aA (bQ t _ (kA e));exact⟨bg this.1,bg this.2⟩
end
section
variable{n:Nat}{pre:Sg}{cd:Cd}{kT seen:ah}{d:fy}{ws:aC}{x t p:Int}{i:Nat}{Z:aw->Prop}{r:Rw}{x6:aT}{cats:e9}
def o6(d:fy)(l:bz):Prop:=∀q,q∈l->qf d q.1 q.2
def o6.grow{d d':fy}{ws pR:aC}{l:bz}(o:o6 d l)(g:sC d ws d' pR):o6 d' l:=λq m=>g.at (o q m)
def o6.app{l m:bz}(a:o6 d l)(b:o6 d m):o6 d (l++m):=λq h=>(fZ h).elim (a q) (b q)
def o6.one{q:Int×Int}(a:qf d q.1 q.2):o6 d [q]:=λq h=>cI h▸a
def UO{Kf:gZ}(hp:Pre pre)(hb:Res (graph cd) none->Z dp)(b:mi cd)(r0:sX (graph cd) i x)(is:tM (i:Int))(hc:∀c∈cats,c.depth.natAbs<=1000000)(ho:∀q∈mf cats i,sX (graph cd) q.1 q.2)(UP:gV cats i x=false->Res (graph cd) none):∀{d ws x6},Sd cd d ws->
  (∀d' pR y6,Rx cd d ws d' pR->gV cats i x=true->o6 d' (mf cats i)->Z (Kf (sP cd kT seen pre i x r t p y6) (σC pre d' pR)))->Z (iZ (dy (n+2) xW) [6] ((cats.map Ct.o).map (ck true)) (sP cd kT seen pre i x r t p x6) (σC pre d ws) Kf):=by
 induction cats with
 |nil=>exact λ{d ws x6} S hK=>hK d ws x6 (.refl S) rfl λJ m=>qP m|cons c cats ih=>
  intro d ws x6 S hK;have ih:=ih λc m=>hc c (.tail _ m)
  show Z (gy _ [6] (ck true c.o) λρ=>dy (n+2) xW ρ (σC pre d ws) λρ σ=>iZ (dy (n+2) xW) [6] ((cats.map Ct.o).map (ck true)) ρ σ Kf)
  rw[Iu,cn UL rfl];have ok:gV (c::cats) i x=((!(gU i c)||decide (c.depth<=x))&&gV cats i x):=rfl
  cases q:gU i c with
  |false=>
   have e:mf (c::cats) i=mf cats i:=by unfold mf;rw[List.filter_cons_of_neg (by rw[q];nofun)]
   rw[q]at ok;rw[ok]at hK UP;rw[e]at ho hK;exact ih ho UP S hK
  |true=>
   have e:mf (c::cats) i=Aw c::mf cats i:=by unfold mf;rw[List.filter_cons_of_pos q];rfl
   rw[q]at ok;rw[ok]at hK UP;rw[e]at ho hK;by_cases h:x<c.depth
   ·have h':decide (c.depth<=x)=false:=b9 (by lia);rw[h']at UP;rw[aZ h]
    show Z (bL (F0 (n+2) 357 _ _) _)
    rw[qN (k:=39) is rfl aP];exact hb (UP rfl)
   ·have h':decide (c.depth<=x)=true:=aZ (by lia);rw[h']at UP hK;rw[b9 h];refine qO (j:=c.target) (y:=c.depth+1) hp hb b S (ho _ (.head _)) ?_ is λd' pR rx a=>?_
    ·have:=hc c (.head _);exact aa (num (k:=10000000*1) rfl (kZ this (aH 1))) (hX _ (cY 1 _))
    ·exact ih (λq m=>ho q (.tail _ m)) UP rx.sd λd2 ws2 y6 B6 UQ o2=>hK d2 ws2 y6 (rx.trans B6) UQ λq m=>(fY m).elim (λz=>z▸B6.grow.at a) (o2 q)
end
section
variable{n:Nat}{pre:Sg}{cd:Cd}{kT seen:ah}{d:fy}{ws:aC}{x:Int}{i:Nat}{K:Sg->aw}{Z:aw->Prop}{r:Rw}
def vS{q:Int×Int}(m:q∈iS r (x-(dY r).1+(dY r).2)\/q∈kE r i (x-(dY r).1+(dY r).2)\/q∈mf cd.cats i):q∈sL cd r i x:=
 m.elim (λm=>iT _ (iT _ m)) λm=>m.elim (λm=>iT _ (fC _ m)) λm=>fC _ m
def UR(hp:Pre pre)(hb:Res (graph cd) none->Z dp)(b:mi cd)(H:∀r∈cd.rows,d7 r=true)(S:Sd cd d ws)(hx:d[i]? =some (some x))
  (hK:∀d' pR,Rx cd d ws d' pR->(graph cd).ok i x=true->o6 d' ((graph cd).outs i x)->Z (K (σC pre d' pR))):Z (bL (F0 (n+4) 390 [cP cd kT seen pre,.val (int i)] (σC pre d ws)) K):=by
 have ln:d.length=cd.rows.length:=S.inv.len;have li:i<cd.rows.length:=ln▸(dO hx).1;have hr:cd.rows[i]? =some cd.rows[i]:=bN li;have mr:cd.rows[i]∈cd.rows:=List.getElem_mem li;have r0:=S.inv.ent i x hx;have br:=b.rows;have is:tM (i:Int):=bP (show(i:Int).natAbs<=1000 from cM (dI li br)) aP;have es:=DX (b.small _ mr);have ok:=xU (x:=x) hr;have outs:=sO (x:=x) hr;have hf:=H _ mr;generalize cd.rows[i]=r at hr mr es ok outs hf;have rch:∀q∈sL cd r i x,sX (graph cd) q.1 q.2:=λq m=>.step r0 (outs▸m);have hxs:=S.high i x hx;rw[UE,idx_map (f:=Rw.o) (d9 i) hr]
 show Z (bL ((fq _ _ _).bind _) K)
 rw[Ir hp (d9 i) hx]
 show Z (bL (dy (n+3) (tl 1 aK) (stE cd kT seen pre i x (some r.o) none none none) (σC pre d ws) doneK) K)
 rw[UG,cn (HP hf n (σC pre d ws)) rfl]
 show Z (bL (dy (n+3) (tl 2 aK) (sP cd kT seen pre i x r (dY r).1 (dY r).2 none) (σC pre d ws) doneK) K)
 rw[UH];by_cases low:x<(dY r).1
 ·rw[aZ low]
  show Z (bL (bL (F0 (n+3) 357 _ _) _) K)
  rw[qN (k:=20) is rfl aP];exact hb (jI.bad r0 (by rw[ok,b9 (Int.not_le.mpr low)];rfl))
 rw[b9 low];rw[aZ (Int.not_lt.mp low),Bool.true_and]at ok;have yb:∀d':fy,free d'<=free d->(x-(dY r).1+(dY r).2).natAbs<=10000000*(cd.rows.length-free d'+1):=λd' h=>by
  have h1:(x-(dY r).1+(dY r).2).natAbs<=10000000*(cd.rows.length-free d)+10000000:=by
   have:=kZ (UM hxs es.1) es.2;rw[bf]at this;exact aa this (bc (bg rfl) _)
  rw[Nat.mul_add];exact aa h1 (hV (hX _ (Nat.sub_le_sub_left h _)) _)
 have s5:∀{d1 ws1},Rx cd d ws d1 ws1->o6 d1 (iS r (x-(dY r).1+(dY r).2))->o6 d1 (kE r i (x-(dY r).1+(dY r).2))->Z (bL (dy (n+3) (tl 5 aK) (sP cd kT seen pre i x r (dY r).1 (dY r).2 none) (σC pre d1 ws1) doneK) K):=λ{d1 ws1} rx o1 o2=>by
  rw[UK];exact UO (Z:=λo=>Z (bL o K)) (n:=n+1) hp hb b r0 is (λc m=>(b.cat c m).1) (λq m=>rch q (vS (.inr (.inr m)))) (λq=>jI.bad r0 (ok.trans q)) rx.sd λd2 ws2 y6 B6 UQ o3=>hK d2 ws2 (rx.trans B6) (ok.trans UQ) (by
   rw[outs];exact((o1.grow B6.grow).app (o2.grow B6.grow)).app o3)
 have s4:∀{d1 ws1},Rx cd d ws d1 ws1->o6 d1 (iS r (x-(dY r).1+(dY r).2))->Z (bL (dy (n+3) (tl 4 aK) (sP cd kT seen pre i x r (dY r).1 (dY r).2 none) (σC pre d1 ws1) doneK) K):=λ{d1 ws1} rx o1=>by
  rw[UJ]
  cases q:fA r.op o4 with
  |true=>exact s5 rx o1 (by unfold kE;rw[q];exact λj m=>qP m)|false=>
   have e:kE r i (x-(dY r).1+(dY r).2)=[((i:Int)+1,x-(dY r).1+(dY r).2)]:=by unfold kE;rw[q];rfl
   exact qO (Z:=λo=>Z (bL o K)) hp hb b rx.sd (rch ((i:Int)+1,x-(dY r).1+(dY r).2) (vS (.inr (.inl (by rw[e];exact .head _))))) (yb d1 rx.fr) is λd2 ws2 B6 a=>s5 (rx.trans B6) (o1.grow B6.grow) (e▸.one a)
 rw[show(bif false then bL (F0 (n+3) 357 [cP cd kT seen pre,.val (int i),.val (str (k' "the stack is too low"))] (σC pre d ws)) (λσ=>dy (n+3) (tl 3 aK) (sP cd kT seen pre i x r (dY r).1 (dY r).2 none) σ doneK)else dy (n+3) (tl 3 aK) (sP cd kT seen pre i x r (dY r).1 (dY r).2 none) (σC pre d ws) doneK)=dy (n+3) (tl 3 aK) (sP cd kT seen pre i x r (dY r).1 (dY r).2 none) (σC pre d ws) doneK from rfl,UI]
 cases q:fA r.op fM with
 |false=>exact s4 (.refl S) (by unfold iS;rw[q];exact λj m=>qP m)|true=>
  obtain⟨a,ha,_⟩:=sM hf q;have e:iS r (x-(dY r).1+(dY r).2)=[(a,x-(dY r).1+(dY r).2)]:=by unfold iS;rw[q,ha];rfl
  rw[ha];exact qO (Z:=λo=>Z (bL o K)) hp hb b S (rch (a,x-(dY r).1+(dY r).2) (vS (.inl (by rw[e];exact .head _)))) (yb d (aH _)) is λd2 ws2 B6 at2=>s4 B6 (e▸.one at2)
end
def startB:S:=m8 (aU 3 aM)
def whB:S:=m8 (aU 4 aM)
section
variable{n:Nat}{pre σ:Sg}{cd:Cd}{kT seen:ah}{d:fy}{ws:aC}{i s:Nat}{K:gZ}{Z:aw->Prop}{x1 x2 x3:aT}{starts:aC}
abbrev rE(cd:Cd)(kT seen:ah)(pre:Sg)(x1 x2 x3:aT):bU:=[some (cP cd kT seen pre),x1,x2,x3]
def aae:F0 (n+1) 404 [cP cd kT seen pre] σ=dy n aM (rE cd kT seen pre none none none) σ doneK:=aO
def P9:aF:=[k' "method",k' "block",k' "class",k' "program"]
def aaf:dy n aM (rE cd kT seen pre none none none) σ K=bif !(fA cd.kind P9)then dp else bif decide ((cd.starts.map λs:Nat=>Tr.val (int s)).length=(0:Int))then dp else dy n (tl 1 aM) (rE cd kT seen pre none none none) σ K:=aO
def aag:dy n (tl 1 aM) (rE cd kT seen pre none none none) σ K=if(cd.rows.map Rw.o).length<2^40 then iZ (dy n Nk) [1,2] ((cd.rows.map Rw.o).map λt=>[.gY,t]) (rE cd kT seen pre none none none) σ (λρ σ=>dy n (tl 2 aM) ρ σ K)else none:=aO
def aah:dy n (tl 2 aM) (rE cd kT seen pre x1 x2 x3) σ K=bL (F0 n 397 [cP cd kT seen pre] σ) λσ=>dy n (tl 3 aM) (rE cd kT seen pre x1 x2 x3) σ K:=aO
def evO(n:Nat)(s:S):Sv:=(MP (F0 n) (dW Ak n true) false s).o
def xY{s ss:S}{ρ:bU}:dy n (.cons s ss) ρ σ K=evO n s ρ σ λρ σ=>dy n ss ρ σ K:=rfl
def acA:tl 3 aM=.cons (aU 3 aM) (tl 4 aM):=aO
def aai:evO n (aU 3 aM) (rE cd kT seen pre x1 x2 x3) σ K=iZ (dy n startB) [3] ((cd.starts.map λs:Nat=>Tr.val (int s)).map (ck true)) (rE cd kT seen pre x1 x2 x3) σ K:=aO
def aaj:dy n (tl 3 aM) (rE cd kT seen pre x1 x2 x3) σ K=iZ (dy n startB) [3] ((cd.starts.map λs:Nat=>Tr.val (int s)).map (ck true)) (rE cd kT seen pre x1 x2 x3) σ (λρ σ=>dy n (tl 4 aM) ρ σ K):=(ak (λs=>dy n s (rE cd kT seen pre x1 x2 x3) σ K) acA).trans (xY.trans aai)
def NO:gy (rE cd kT seen pre x1 x2 x3) [3] (ck true (.val (int s))) (λρ=>dy n startB ρ σ K)=bL (F0 n 364 [cP cd kT seen pre,.val (int s),.val (int 0),.val (int s)] σ) (K (rE cd kT seen pre x1 x2 (some (.val (int s))))):=aO
def wC'(n:Nat):Ev:=(gz (F0 n) (dW Ak n true) (.cmp (.call (.glob (.builtin "len")) (.cons (.attr (.loc 0) .waiting) .nil)) (.jz .Gt (.lit (int 0)) .nil))).e
def RW(n:Nat):Nat->Sv:=V8 (wC' n) (dy n whB)
def US:tl 4 aM=.cons (.iG (.cmp (.call (.glob (.builtin "len")) (.cons (.attr (.loc 0) .waiting) .nil)) (.jz .Gt (.lit (int 0)) .nil)) whB) .nil:=aO
def aak{ρ:bU}:dy n (tl 4 aM) ρ σ K=RW n nz ρ σ K:=by
 have e:evO n (.iG (.cmp (.call (.glob (.builtin "len")) (.cons (.attr (.loc 0) .waiting) .nil)) (.jz .Gt (.lit (int 0)) .nil)) whB)=RW n nz:=rfl;have e2:(λρ σ=>dy n .nil ρ σ K)=K:=rfl;rw[US,xY,e,e2]
def B7(hp:Pre pre){f:Nat}:RW n (f+1) (rE cd kT seen pre x1 x2 x3) (σC pre d ws) K=bif decide ((ws.map qB).length>(0:Int))then(z9 (σC pre d ws) (wC pre)).bind (λq=>Mx q λt σ=>bL (F0 n 390 [cP cd kT seen pre,t] σ) λσ=>RW n f (rE cd kT seen pre x1 x2 x3) σ K)else K (rE cd kT seen pre x1 x2 x3) (σC pre d ws):=by cases hp<;>kernel_rfl
def NP:fA cd.kind P9=fA cd.kind kindS:=by
 show(_||(_||(_||(_||false))))=(_||(_||(_||(_||false))))
 cases k' "method"==cd.kind<;>cases k' "block"==cd.kind<;>cases k' "class"==cd.kind<;>cases k' "program"==cd.kind<;>rfl
def Iv(hp:Pre pre)(hb:Res (graph cd) none->Z dp)(b:mi cd)(hs:∀s∈starts,s∈cd.starts):∀{d ws x3},Sd cd d ws->(∀d' pR y3,Rx cd d ws d' pR->(∀s∈starts,qf d' s 0)->Z (K (rE cd kT seen pre x1 x2 y3) (σC pre d' pR)))->
  Z (iZ (dy (n+2) startB) [3] ((starts.map λs:Nat=>Tr.val (int s)).map (ck true)) (rE cd kT seen pre x1 x2 x3) (σC pre d ws) K):=by
 induction starts with
 |nil=>exact λ{d ws x3} S hK=>hK d ws x3 (.refl S) λj m=>qP m|cons s starts ih=>
  intro d ws x3 S hK;have so:tM (s:Int):=bP (b.startB s (hs s (.head _))) aP
  show Z (gy _ [3] (ck true (.val (int s))) λρ=>dy (n+2) startB ρ (σC pre d ws) λρ σ=>iZ (dy (n+2) startB) [3] ((starts.map λs:Nat=>Tr.val (int s)).map (ck true)) ρ σ K)
  rw[NO];exact qO hp hb b S (.start (hs s (.head _))) (bO _) so λd' pR rx a=>ih (λs m=>hs s (.tail _ m)) rx.sd λd2 ws2 y3 B6 a2=>hK d2 ws2 y3 (rx.trans B6) λs' m=>(fY m).elim (λz=>z▸B6.grow.at a) (a2 s')
def NQ(hp:Pre pre)(hb:Res (graph cd) none->Z dp)(b:mi cd)(H:∀r∈cd.rows,d7 r=true)(hK:∀d,Res (graph cd) (some d)->Z (K (rE cd kT seen pre x1 x2 x3) (σC pre d []))):
  ∀(m f:Nat){d ws},free d*2+ws.length<=m->m<f->Sd cd d ws->PW (graph cd) d ws->(∀s∈cd.starts,qf d s 0)->Z (RW (n+4) f (rE cd kT seen pre x1 x2 x3) (σC pre d ws) K):=by
 intro m
 induction m with
 |zero=>
  intro f d ws hm hf S dn st
  cases f with
  |zero=>exact absurd hf (Nat.lt_irrefl 0)|succ f=>
   have:ws=[]:=List.eq_nil_of_length_eq_zero (Nat.le_zero.mp (aa (cY ..) hm));subst this;rw[B7 hp];exact hK d (S.inv.fin dn st)
 |succ m ih=>
  intro f d ws hm hf S dn st
  cases f with
  |zero=>exact absurd hf (Nat.not_lt_zero _)|succ f=>
   rw[B7 hp];rcases List.eq_nil_or_concat ws with rfl|⟨Il,i,rfl⟩
   ·exact hK d (S.inv.fin dn st)
   ·rw[List.concat_eq_append]at hm S dn⊢;have lw:(Il++[i]).length=Il.length+1:=aE;have rm:=S.room;have br:=b.rows;rw[aZ (by rw[au,lw];exact Int.natCast_pos.mpr (Nat.succ_pos _)),aac hp (bP (aa (Nat.le_succ _) (aa (aW ..) (aa (lw▸rm) br))) aP)];obtain⟨x,hx⟩:=S.inv.wait i (fC _ (.head _));have S0:Sd cd d Il:=⟨⟨S.inv.len,S.inv.ent,λj mj=>S.inv.wait j (iT _ mj)⟩,S.high,aa (hV (lw▸Nat.le_succ _) _) rm⟩
    refine UR hp hb b H S0 hx λd' pR rx ok outs=>ih f (aa rx.less (gE (by rw[lw]at hm;exact hm))) (Nat.lt_of_succ_lt_succ hf) rx.sd (λj y e=>?_) λs m=>rx.grow.at (st s m);refine(rx.grow.new j y e).elim (λe1=>?_) .inl;refine(dn j y e1).elim (λmj=>(fZ mj).elim (λmj=>.inl (rx.grow.sub j mj)) λmj=>?_) λq=>.inr ⟨q.1,λp mp=>rx.grow.at (q.2 p mp)⟩;cases cI mj;rw[hx]at e1;cases e1;exact .inr ⟨ok,outs⟩
end
section
variable{n:Nat}{pre σ:Sg}{cd:Cd}{kids:iC}{kT seen:ah}{sn:List (Cd×ah)}{d:fy}{K:Sg->aw}{Kf:gZ}{Z:aw->Prop}
def xZ{n:Nat}:free (List.replicate n (none:Option Int))=n:=by
 induction n with
 |zero=>rfl|succ n ih=>exact ak (·+1) ih
def AG{n i:Nat}{x:Int}(e:(List.replicate n (none:Option Int))[i]? =some (some x)):False:=by
 rw[List.getElem?_replicate]at e;by_cases h:i<n
 ·rw[av h]at e;cases e
 ·rw[aB h]at e;exact eA e
def Sd.zero:Sd cd (List.replicate cd.rows.length none) []:=⟨⟨List.length_replicate,λj j e=>(AG e).elim,λj m=>qP m⟩,λj j e=>(AG e).elim,by rw[xZ];exact Nat.le_of_eq (cX _)⟩
def aal(hp:Pre pre)(b:mi cd)(hb:Res (graph cd) none\/gj cd (kids.map Cd.kind) sn.length=false->Z dp)
  (hK:∀d,gj cd (kids.map Cd.kind) sn.length=true->Res (graph cd) (some d)->Z (K (σC pre d []))):Z (bL (F0 (n+6) 404 [cP cd (kids.map Cd.o0) (sn.map kB) pre] (σC pre (List.replicate cd.rows.length none) [])) K):=by
 have bad:gj cd (kids.map Cd.kind) sn.length=false->Z dp:=λe=>hb (.inr e);rw[aae,aaf,NP,j8];unfold gj at bad hK
 cases q1:fA cd.kind kindS with
 |false=>rw[q1]at bad;exact bad rfl|true=>
  rw[q1]at bad hK;have e:decide ((cd.starts.map λs:Nat=>Tr.val (int s)).length=(0:Int))=cd.starts.isEmpty:=by cases cd.starts<;>rfl
  show Z (bL (bif decide _ then dp else _) K)
  rw[e]
  cases q2:cd.starts.isEmpty with
  |true=>rw[q2]at bad;exact bad rfl|false=>
   rw[q2]at bad hK
   show Z (bL (dy (n+5) (tl 1 aM) _ _ _) K)
   rw[aag,av (by rw[au];exact bP b.rows aP)];obtain⟨ρ',⟨x1,x2,x3,rfl⟩,e⟩:=Ny (n:=n) (σ:=σC pre (List.replicate cd.rows.length none) []) (kids:=kids) (sn:=sn) (d:=dC pre) (w:=wC pre) b.small rfl (k:=λρ σ=>dy (n+5) (tl 2 aM) ρ σ doneK);rw[show iZ _ _ _ _ _ _=_ from e];cases q3:cd.rows.all (eX cd.rows.length sn.length (kids.map Cd.kind))with
   |false=>rw[q3]at bad;exact bad rfl|true=>
    rw[q3]at bad hK
    show Z (bL (dy (n+5) (tl 2 aM) (rE cd (kids.map Cd.o0) (sn.map kB) pre x1 x2 x3) _ _) K)
    rw[aah,DU λc m=>(b.cat c m).2];cases q4:cd.cats.all (kD cd.rows.length)with
    |false=>rw[q4]at bad;exact bad rfl|true=>
     rw[q4]at hK;have H:=(xV b q3 q4).rows
     show Z (bL (dy (n+5) (tl 3 aM) (rE cd (kids.map Cd.o0) (sn.map kB) pre x1 x2 x3) _ _) K)
     rw[aaj];refine Iv (Z:=λo=>Z (bL o K)) (n:=n+3) hp (λr=>hb (.inl r)) b (λJ m=>m) Sd.zero λd' pR y3 rx st=>?_;rw[aak];have br:=b.rows;have rm:=rx.less;rw[xZ]at rm;refine NQ (K:=doneK) (Z:=λo=>Z (bL o K)) (n:=n+1) hp (λr=>hb (.inl r)) b H (λd r=>(show Z (bL (iF (.val .none) (σC pre d [])) K)from hK d rfl r)) 2000 nz (aa rm (show cd.rows.length*2+0<=2000 by lia)) (by rw[xG];decide) rx.sd (λj y e=>?_) st;exact(rx.grow.new j y e).elim (λe=>(AG e).elim) .inl
def B8(cd:Cd)(kT:ah)(ou:Tr)(x2 x3:aT):bU:=[some (cd.o kT),some ou,x2,x3]
def aam{ou:Tr}:F0 (n+2) 420 [cd.o kT,ou] σ=(((((uz (cd.kind==cG) (cd.o kT) ou).bind (DF σ (cd.o kT) (cd.rows.map Rw.o))).map λq=>Out.ret q.1 q.2).bind vA).bind λq=>Mx q λt σ=>dy (n+1) (tl 1 dU) (B8 cd kT ou (some t) none) σ doneK).map (yo σ.length):=aO
def aan{ou self:Tr}(hs:self=cP cd kT seen pre):dy n (tl 1 dU) (B8 cd kT ou (some self) none) σ Kf=bL (F0 n 404 [self] σ) λσ=>dy n (tl 2 dU) (B8 cd kT ou (some self) none) σ Kf:=by subst hs;kernel_rfl
def vT:S:=m8 (aU 2 dU)
def aao{ou self:Tr}:dy n (tl 2 dU) (B8 cd (kids.map Cd.o0) ou (some self) none) σ Kf=iZ (dy n vT) [3] ((kids.map Cd.o0).map (ck true)) (B8 cd (kids.map Cd.o0) ou (some self) none) σ λρ σ=>dy n (tl 3 dU) ρ σ Kf:=aO
def aap{ou:Tr}{x3:aT}:dy n (tl 3 dU) (B8 cd kT ou (some (cP cd kT seen pre)) x3) σ doneK=iF (dC pre) σ:=aO
def DY(seen:ah)(k:Cd):Tr:=bif k.kind==cG then .lst seen else .tup []
def aaq{ou:Tr}{x3:aT}{k:Cd}:gy (B8 cd kT ou (some (cP cd kT seen pre)) x3) [3] (ck true k.o0) (λρ=>dy n vT ρ σ Kf)=bL (F0 n 420 [k.o0,DY seen k] σ) (Kf (B8 cd kT ou (some (cP cd kT seen pre)) (some k.o0))):=by
 have:gy (B8 cd kT ou (some (cP cd kT seen pre)) x3) [3] (ck true k.o0) (λρ=>dy n vT ρ σ Kf)=bif k.kind==cG then bL (F0 n 420 [k.o0,.lst seen] σ) (Kf (B8 cd kT ou (some (cP cd kT seen pre)) (some k.o0)))else bL (F0 n 420 [k.o0,.tup []] σ) (Kf (B8 cd kT ou (some (cP cd kT seen pre)) (some k.o0))):=aO
 rw[this];unfold DY;cases k.kind==cG<;>rfl
def Jx(pre:Sg)(D:Option fy):aw:=D.elim dp λd=>iF (dT (some d)) pre
def UT{ou:Tr}(hk:∀k∈kids,F0 n 420 [k.o0,DY seen k] σ=Jx σ (i8 k (fH sn.length k)))(hb:(kids.all λk=>(i8 k (fH sn.length k)).isSome)=false->Z dp):∀{x3},((kids.all λk=>(i8 k (fH sn.length k)).isSome)=true->∀y3,Z (Kf (B8 cd kT ou (some (cP cd kT seen pre)) y3) σ))->
  Z (iZ (dy n vT) [3] ((kids.map Cd.o0).map (ck true)) (B8 cd kT ou (some (cP cd kT seen pre)) x3) σ Kf):=by
 induction kids with
 |nil=>exact λ{x3} hK=>hK rfl x3|cons k kids ih=>
  intro x3 hK
  show Z (gy _ [3] (ck true k.o0) λρ=>dy n vT ρ σ λρ σ=>iZ (dy n vT) [3] ((kids.map Cd.o0).map (ck true)) ρ σ Kf)
  have e:((k::kids).all λk=>(i8 k (fH sn.length k)).isSome)=((i8 k (fH sn.length k)).isSome&&kids.all λk=>(i8 k (fH sn.length k)).isSome):=rfl;rw[aaq,hk k (.head _)];rw[e]at hb hK;cases q:i8 k (fH sn.length k)with
  |none=>rw[q]at hb;exact hb rfl|some d=>rw[q]at hb hK;exact ih (λk m=>hk k (.tail _ m)) hb hK
end
section
variable{n:Nat}{pre:Sg}{cd:Cd}{kids:iC}{sn:List (Cd×ah)}{ou:Tr}
def ql(cd:Cd)(kids:iC)(sn:List (Cd×ah)):List (Cd×ah):=bif cd.kind==cG then(cd,kids.map Cd.o0)::sn else [(cd,kids.map Cd.o0)]
def pU:(ql cd kids sn).length=eT cd sn.length:=by
 unfold ql eT
 cases cd.kind==cG with
 |true=>exact fg _ _|false=>rfl
def Iw(h:lY ou=some (sn.map kB))(l:sn.length<=2):uz (cd.kind==cG) (cd.o (kids.map Cd.o0)) ou=some ((ql cd kids sn).map kB):=by
 unfold uz ql
 cases cd.kind==cG with
 |true=>
  rw[h];exact av (by rw[au];exact bP l aP)
 |false=>rfl
def NR{seen:ah}{t:Tr}(b:mi cd):DF pre t (cd.rows.map Rw.o) seen=some (.obj 407 [.code,.seen,.gF,.waiting] [t,.lst seen,.cell pre.length,.cell (pre.length+1)],σC pre (List.replicate cd.rows.length none) []):=by
 unfold DF σC;rw[au,av (aa b.rows aP),List.map_replicate,aQ];rfl
def acB{d:fy}(UU:∀g,pre.map (T4 g)=pre)(hp:Pre pre):(iF (dC pre) (σC pre d [])).map (yo pre.length)=iF (dT (some d)) pre:=by
 have e1:∀g,eE g (d.map pb)=d.map pb:=λg=>fN λo=>rfl;have e2:(iF (dC pre) (σC pre d [])).map (yo pre.length)=some (.ret (.lst (eE (wj pre.length (σC pre d []) 2) (d.map pb))) (pre.map (T4 (wj pre.length (σC pre d []) 3)))):=by cases hp<;>rfl
 rw[e2,e1,UU];rfl
def Iy(hp:Pre pre)(UU:∀g,pre.map (T4 g)=pre)(b:mi cd)(hou:lY ou=some (sn.map kB))(l:sn.length<=2)
  (hk:∀d,∀k∈kids,d8 k (fH (eT cd sn.length) k) (i8 k (fH (eT cd sn.length) k))/\F0 (n+6) 420 [k.o0,DY ((ql cd kids sn).map kB) k] (σC pre d [])=Jx (σC pre d []) (i8 k (fH (eT cd sn.length) k))):
  ∃D,iD cd kids sn.length D/\F0 (n+7) 420 [cd.o (kids.map Cd.o0),ou] pre=Jx pre D:=by
 have sl:=pU (cd:=cd) (kids:=kids) (sn:=sn);have aar:Res (graph cd) none\/¬Good cd kids sn.length->∃D,iD cd kids sn.length D/\dp.map (yo pre.length)=Jx pre D:=λh=>by
  by_cases g:Good cd kids sn.length
  ·exact⟨none,.yes _ g (h.resolve_right λq=>q g),rfl⟩
  ·exact⟨none,.no g,rfl⟩
 rw[aam,Iw hou l];show∃D,_/\((((DF _ _ _ _).map _).bind vA).bind _).map _=_
 rw[NR b];show∃D,_/\(dy (n+6) (tl 1 dU) (B8 cd (kids.map Cd.o0) ou (some (cP cd (kids.map Cd.o0) ((ql cd kids sn).map kB) pre)) none) (σC pre _ []) doneK).map _=_
 rw[aan rfl];refine aal (Z:=λo=>∃D,iD cd kids sn.length D/\o.map (yo pre.length)=Jx pre D) hp b (λh=>aar (h.imp_right λq g=>?_)) λd right res=>?_
 ·rw[sl,g.1]at q;exact Qu q
 ·rw[sl]at right;rw[aao];rw[<-sl]at hk;refine UT (Z:=λo=>∃D,iD cd kids sn.length D/\o.map (yo pre.length)=Jx pre D) (λk m=>(hk d k m).2) (λq=>aar (.inr λg=>?_)) λal y3=>?_
  ·have:(kids.all λk=>(i8 k (fH (ql cd kids sn).length k)).isSome)=true:=List.all_eq_true.mpr λk m=>by
    obtain⟨d,h⟩:=g.2 k m;rw[sl,o5 h];rfl
   rw[q]at this;exact iM this
  ·rw[aap,acB UU hp];refine⟨some d,.yes _ ⟨right,λk m=>?_⟩ res,rfl⟩;obtain⟨d',hd⟩:=Option.isSome_iff_exists.mp (bQ al k m);rw[<-sl];exact⟨d',hd▸(hk d k m).1⟩
def aas{d:fy}(g:Nat->Tr):(σC [] d []).map (T4 g)=σC [] d []:=by
 show [Cn.buf none (eE g (d.map pb)) 0,.buf none [] _]=_
 rw[fN λo=>rfl];rfl
def NT{d:fy}{k:Cd}(b:mi k){sN:List (Cd×ah)}(l:sN.length<=2):d8 k (fH sN.length k) (i8 k (fH sN.length k))/\F0 (n+7) 420 [k.o0,DY (sN.map kB) k] (σC [] d [])=Jx (σC [] d []) (i8 k (fH sN.length k)):=by
 have go:∀sn:List (Cd×ah),sn.length<=2->∀ou,lY ou=some (sn.map kB)->∀o,o=sn.length->d8 k o (i8 k o)/\F0 (n+7) 420 [k.o0,ou] (σC [] d [])=Jx (σC [] d []) (i8 k o):=λsn l ou h o e=>by
  obtain⟨D,h1,h2⟩:=Iy (n:=n) (kids:=[]) (Pre.two _ _) aas b h l λj j m=>qP m;have h1:=d8.to h1;rw[e,o5 h1];exact⟨h1,h2⟩
 unfold fH DY
 cases k.kind==cG with
 |true=>exact go sN l _ rfl _ rfl|false=>exact go [] (bO _) _ rfl _ rfl
def NU(b:mi cd)(bk:∀k∈kids,mi k):∃D,iD cd kids 0 D/\F0 (n+8) 420 [cd.o (kids.map Cd.o0)] []=Jx [] D:=by
 obtain⟨D,h1,h2⟩:=Iy (n:=n+1) (kids:=kids) (sn:=[]) (ou:=.tup []) Pre.zero (λg=>rfl) b rfl (bO _) λd k m=>by
  have l:(ql cd kids []).length<=2:=by rw[pU];unfold eT;cases cd.kind==cG<;>exact bg rfl
  have:=NT (n:=n) (d:=d) (bk k m) l;rw[pU]at this;exact this
 exact⟨D,h1,(show F0 (n+8) 420 [cd.o (kids.map Cd.o0)] []=F0 (n+8) 420 [cd.o (kids.map Cd.o0),.tup []] [] by kernel_rfl).trans h2⟩
def NV{w:Wd}{v:Value}{Q:dm}{X:bA}(hw:w.σ=[])(b:mi cd)(bk:∀k∈kids,mi k)(r:w.R (cd.o (kids.map Cd.o0)) v)(K:∀D,iD cd kids 0 D->Kr w (dT D) [] Q):bt du aG (n+9) 568 [v] w.h Q X:=by
 refine⟨wA,aO,aH 1,aH 1,?_⟩;obtain⟨D,h1,h2⟩:=NU (n:=n) b bk;have C:=a9 sA (n+8) false;have kf:aG.kind 420=.fn:=aO;have go:∀X',(D=none->∀w',w.Le w'->X' w'.h)->bt du aG (n+8) 420 [v] w.h Q X':=λX' h=>by
  have e:F0 (n+8) 420 [cd.o (kids.map Cd.o0)] w.σ=Jx [] D:=by rw[hw];exact h2
  cases D with
  |none=>exact C.fn kf e ⟨r,trivial⟩ nofun λj=>h rfl|some d=>exact C.fn kf e ⟨r,trivial⟩ (λt σ e=>by injection e with e1 e2;exact e1▸e2▸K _ h1) nofun
 refine(show _ from dD.fn (tb:=aG) kf (go (λh'=>Q .none h') λz w' L=>?_):);subst z;exact K none h1 (w'.fz 0) .none (Wd.xF L (by rw[hw];exact aH _)) rfl ⟨rfl,rfl⟩
end
def UW(b:Bw):ai:=[int b.gr,int b.sd,int b.ct,.bool b.sm]
section
variable{h:Hp}{a:Addr}{b:Bw}{k:Int}{n t:Nat}{Q:dm}{X:bA}
def ix{xs:ai}{j:Int}{x:Value}{p:Nat}(ha:h a=some (.list xs))(pj:place xs.length j=some p)(hx:xs[p]? =some x)(w:Q x h):hA (.ref a) (int j) h Q:=.mk xs x p (by rw[ha];rfl) pj hx w
def four(k:Int)(e:decide (k<4)=true):k<((UW b).length:Int):=cf e
def nab{x:Int}{n:Nat}(h:0<=x)(l:x<n):x.natAbs<n:=Int.ofNat_lt.mp ((Int.natAbs_of_nonneg h).symm▸l)
def Iz(ha:h a=some (.list (UW b)))(s0:0<=b.sd)(s1:b.sd<2147483629)(c0:0<=b.ct)(c1:b.ct+1<=1000000)(k0:0<k)(k1:k<=1000)(K:Q (int (b.dig k)) (h.set a (.list (UW (b.pL k))))):bt du aG (n+1) 439 [.ref a,.int k t] h Q X:=by
 refine⟨wt,rfl,aH 2,aH 2,?_⟩
 show hA (.ref a) (int 0) h _
 refine ix ha rfl rfl ⟨decide (b.gr>0),rfl,?_⟩;unfold Bw.dig Bw.pL at K;have kn:k.natAbs<1073741824:=nab (Int.le_of_lt k0) (Int.lt_of_le_of_lt k1 aP);by_cases g:b.gr>0
 ·rw[av g,av g]at K;rw[aZ g]
  show hA (.ref a) (int 0) h _
  refine ix ha rfl rfl ⟨by first|exact Int.ne_of_gt k0|exact k0|exact Int.le_of_lt k0|exact kn,?_⟩
  show hA (.ref a) (int 0) h _
  refine ix ha rfl rfl ⟨by first|exact Int.ne_of_gt k0|exact k0|exact Int.le_of_lt k0|exact kn,by first|exact Int.ne_of_gt k0|exact k0|exact Int.le_of_lt k0|exact kn,⟨_,ha,et 0,four 0 rfl,K⟩⟩
 ·have cp:0<=b.ct+1:=Int.add_nonneg c0 aP;rw[aB g,aB g]at K;rw[b9 g]
  show hA (.ref a) (int 2) h _
  refine ix ha rfl rfl ⟨_,ha,Int.le.intro 2 rfl,four 2 rfl,?_⟩
  show hA (.ref a) (int 1) (h.set a (.list (UW {b with ct:=b.ct+1}))) _
  have hb:(h.set a (.list (UW {b with ct:=b.ct+1}))) a=some (.list (UW {b with ct:=b.ct+1})):=Hp.set_same ..;refine ix hb rfl rfl ?_
  show hA (.ref a) (int 2) _ _
  refine ix hb rfl rfl ⟨.inl aP,⟨by decide,by decide,?_,⟨by decide,?_⟩⟩⟩
  ·exact nab (n:=2^64) (Int.add_nonneg (Int.add_nonneg s0 (Int.mul_nonneg aP cp)) aP) (Int.lt_of_lt_of_le (Int.add_lt_add_right (Int.add_lt_add_of_lt_of_le s1 (Int.mul_le_mul_of_nonneg_left c1 aP)) 7) aP)
  show hA (.ref a) (int 2) _ _
  have b0:0<=((b.sd+40169*(b.ct+1)+7)^5).fmod 2147483647:=Int.fmod_nonneg_of_pos _ aP;have b1:((b.sd+40169*(b.ct+1)+7)^5).fmod 2147483647<2147483647:=Int.fmod_lt_of_pos _ aP;refine ix hb rfl rfl ⟨.inl aP,⟨by decide,by decide,?_,⟨by decide,⟨by decide,by decide,⟨by first|exact Int.ne_of_gt k0|exact k0|exact Int.le_of_lt k0|exact kn,K⟩⟩⟩⟩⟩;exact nab (n:=2^64) (Int.add_nonneg b0 (Int.mul_nonneg aP cp)) (Int.lt_of_lt_of_le (Int.add_lt_add_of_lt_of_le b1 (Int.mul_le_mul_of_nonneg_left c1 aP)) aP)
end
def UX(b:Bw){k:Int}(h:0<k):0<=b.dig k:=by
 unfold Bw.dig;by_cases g:b.gr>0
 ·rw[av g];exact Int.fmod_nonneg_of_pos _ h
 ·rw[aB g];exact Int.fmod_nonneg_of_pos _ h
def UY(b:Bw){k:Int}(h:0<k):b.dig k<k:=by
 unfold Bw.dig;by_cases g:b.gr>0
 ·rw[av g];exact Int.fmod_lt_of_pos _ h
 ·rw[aB g];exact Int.fmod_lt_of_pos _ h
def IA(b:Bw)(k:Int):(b.pL k).sd=b.sd:=by
 unfold Bw.pL;by_cases g:b.gr>0
 ·rw[av g]
 ·rw[aB g]
def IB(b:Bw)(k:Int):b.ct<=(b.pL k).ct/\(b.pL k).ct<=b.ct+1:=by
 unfold Bw.pL;by_cases g:b.gr>0
 ·rw[av g];exact⟨et _,Int.le_add_one (et _)⟩
 ·rw[aB g];exact⟨Int.le_add_one (et _),et _⟩
def Bx.nx(s:Bx)(k:Int):Bx:=⟨s.b.pL k,by rw[IA];exact s.s0,by rw[IA];exact s.s1,Int.le_trans s.c0 (IB ..).1⟩
noncomputable def bxC:Cn->Option (Bx×(Int×Int)×bz×Nat)
 |.bx s ds left=>match ds with
  |p::ds=>match left with
   |l+1=>some (s,p,ds,l)|0=>none
  |[]=>none
 |_=>none
def acC(σ:Sg)(t u:Tr):aw:=(ny σ t).bind λq=>(bxC q.2).bind λr=>(intOf u).bind λk=>if k=r.2.1.1/\0<k/\k<=1000 then some (.ret (.val (int r.2.1.2)) (σ.set q.1 (.bx (r.1.nx k) r.2.2.1 r.2.2.2)))else none
def B9:Cl:=λa ts σ=>if a=439 then(two ts).bind λq=>acC σ q.1 q.2 else none
section
variable{w:Wd}{t:Tr}{z:Value}{o:Out}{Q:dm}{X:bA}{n:Nat}
def UZ{f:Fs}{h:Hp}{m:cj}{c:Cn}{x:Bx×(Int×Int)×bz×Nat}(e:bxC c=some x)(r:iP f h c m):m=some (.list (SH x.1))/\x.1.b.ct+1+x.2.2.2<=1000000/\x.1.b.dig x.2.1.1=x.2.1.2/\Yl (x.1.b.pL x.2.1.1) x.2.2.1:=by
 cases c with
 |bx s ds left=>cases ds with
  |nil=>exact eA e|cons p ds=>cases left with
   |zero=>exact eA e|succ l=>obtain rfl:=ar e;exact⟨eN r.1,by have:=r.2.1;show s.b.ct+1+l<=1000000;lia,r.2.2.1,r.2.2.2⟩
 |_=>exact eA e
def vU:Zx n B9:=λ{a ts o vs w Q X} e=>by
 obtain⟨rfl,e⟩:=fL e;refine⟨rfl,λr E=>af e λq e1 e=>?_⟩;refine g2 (C:=λvs=>bt du aG (n+1) 439 vs w.h Q X) (pO r e1) λy z rq=>?_;refine af e λp e2 e=>af e λx e3 e=>af e λk e4 e=>?_;obtain⟨⟨rfl,k0,k1⟩,e⟩:=fL e
 cases jH rq.1 e2 with
 |mk b ea rc=>
  obtain⟨m,cl,dg,yl⟩:=UZ e3 rc;refine qy (C:=λz=>bt du aG (n+1) 439 [.ref b,z] w.h Q X) (int_is rq.2 e4) λi t q=>?_;subst q;obtain rfl:=ar e;have c1:x.1.b.ct+1<=1000000:=by lia
  have rc:iP w.f w.h (.bx (x.1.nx x.2.1.1) x.2.2.1 x.2.2.2) (some (.list (UW (x.1.b.pL x.2.1.1)))):=⟨rfl,by have:=(IB x.1.b x.2.1.1).2;show(x.1.b.pL x.2.1.1).ct+x.2.2.2<=1000000;lia,yl⟩
  exact Iz m x.1.s0 x.1.s1 x.1.c0 c1 k0 k1 (E.1 _ _ rfl (w.put _ ea rc) _ (w.pN ea rc) rfl ⟨by rw[dg],rfl⟩)
end
structure Ma where
 s:Bx
 l:Nat
 R:ai
 rl:Nat
 C:ai
 cl:Nat
 K:ai
 kl:Nat
 lf:Int
 ml:Nat
def Jy(lf:Int):ah:=[.cell 1,.cell 2,.cell 3,.val (int lf)]
def Ma.g(m:Ma)(ds:bz)(us cs ks:ah)(ext:Sg):Sg:=
 .bx m.s ds m.l::.buf (some m.R) us m.rl::.buf (some m.C) cs m.cl::.buf (some m.K) ks m.kl::.buf none (Jy m.lf) m.ml::ext
noncomputable def Ma.pre(m:Ma)(R C K:ai):Ma:=⟨m.s,m.l,R,m.rl,C,m.cl,K,m.kl,m.lf,m.ml⟩
noncomputable def Wd.gh(w:Wd){s:Bx}{ds0:bz}{l:Nat}{τ:Sg}(ds:bz)(e:w.σ=.bx s ds0 l::τ)(y:Yl s.b ds):Wd:=⟨w.h,w.f,.bx s ds l::τ,by
 have W:=e▸w.ok;refine⟨W.k,W.nd,W.ln,W.zs,W.zn,λi c q=>?_⟩
 cases i with
 |zero=>
  obtain rfl:=ar q;exact(W.c 0 _ rfl).imp (λj=>id) λa r=>⟨r.1,r.2.1,y⟩
 |succ i=>exact W.c (i+1) c q⟩
mutual
theorem IC:∀t:Tr,sub .cell t=t
 |.val _|.txt _|.gY|.any|.cell _=>rfl
 |.app t=>ak Tr.app (IC t)|.tup ts=>ak Tr.tup (mL ts)|.lst ts=>ak Tr.lst (mL ts)|.mV ks ts=>ak (Tr.mV ks) (mL ts)|.obj c ns ts=>ak (Tr.obj c ns) (mL ts)
theorem mL:∀ts:ah,eE .cell ts=ts|[]=>rfl|t::ts=>(ak (·::eE .cell ts) (IC t)).trans (ak (t::·) (mL ts))
end
def fw{g:Nat->Tr}{us:ah}:∀{ts:ah},eE g (ts++us)=eE g ts++eE g us:=by
 intro ts
 induction ts with
 |nil=>rfl|cons t ts ih=>exact ak (sub g t::·) ih
section
variable{w w' w5:Wd}{m m':Ma}{us cs ks rs cs' ks':ah}{ext:Sg}
def ID{f f':Fs}{h:Hp}(hg:∀(k:Nat) a,f.l[k]? =some a->f'.l[k]? =some a)(hf:∀a,f'.In a->f.In a){ts:ah}{vs:ai}(r:jv f h ts vs):jv f' h ts vs:=by
 have:=ig (g:=.cell) (λk v r=>bu r (hg k)) hf ts r
 rwa [mL]at this
noncomputable def Fs.yt(f:Fs):Fs:=⟨f.l.take 5,f.z++f.l.drop 5⟩
def aat{f f':Fs}(ln:f'.l.length=f.l.length)(pre:∀(i:Nat) a,f.l[i]? =some a->f'.l[i]? =some a)(z:f'.z=f.z):f'=f:=by
 cases f with
 |mk l z0=>
  cases f' with
  |mk l' z'=>
   subst z;have:l'=l:=List.ext_getElem? λi=>by
    cases e:l[i]? with
    |some a=>exact pre i a e|none=>exact List.getElem?_eq_none_iff.mpr (ln▸List.getElem?_eq_none_iff.mp e)
   exact this▸rfl
def U0(f:Fs)(a:Addr)(h:f.yt.In a):f.In a:=h.elim (λm=>.inl (List.mem_of_mem_take m)) λm=>(fZ m).elim .inr λm=>.inl (List.mem_of_mem_drop m)
def U1(f:Fs)(a:Addr)(h:f.In a):f.yt.In a:=h.elim (λm=>(fZ (by rw[List.take_append_drop];exact m:a∈f.l.take 5++f.l.drop 5)).imp id λm=>fC _ m) λm=>.inr (iT _ m)
def U2{f:Fs}{k:Nat}{a:Addr}(e:f.yt.l[k]? =some a):f.l[k]? =some a:=by
 have l:k<5:=by have:=(dO e).1;rw[show f.yt.l.length=min 5 f.l.length from List.length_take ..]at this;exact dI this (Nat.min_le_left ..)
 exact(List.getElem?_take_of_lt l).symm.trans e
def n0{f:Fs}{k:Nat}(l:k<5):f.yt.l[k]? =f.l[k]? :=List.getElem?_take_of_lt l
inductive B'(w:Wd)(i:Nat)(p:Option ai)(us:ah)(left:Nat)(R':ai):Prop
 |mk (a):w.f.l[i]? =some a->w.h a=some (.list R')->(∀{h' rs rl},iA w.h w.f h' w.f->Got (fJ (h' a)) (Dv w.f h' (some R') rs rl)->iP w.f h' (.buf p (us++rs) rl) (h' a))->R'.length+left<=aq->R'.length=(LK p).length+us.length->B' w i p us left R'
def AH{i:Nat}{p:Option ai}{left:Nat}(e:w.σ[i]? =some (.buf p us left)):∃R',B' w i p us left R':=by
 cases w.ok.c i _ e with
 |mk a ea rc=>cases rc with
  |mk vs m b=>cases b with
   |mk uv ev ru ln=>
    refine⟨vs,a,ea,eN m,λL g=>g.imp (λj=>id) λxs b=>?_,ln,by rw[ev,aE,bw ru]⟩
    cases b with
    |mk rv er rr l2=>exact⟨uv++rv,by rw[er,<-aQ,<-ev];rfl,hZ (gQ L us ru) rr,l2⟩
def vV{i:Nat}{p:Option ai}{left:Nat}{R':ai}(b:B' w i p us left R'){f:Fs}:Got w.f.l[i]? λa=>iP f w.h (.buf (some R') [] left) (w.h a):=by
 cases b with
 |mk a ea hv _ ln _=>exact⟨a,ea,R',by exact ak _ hv,[],(c9 _).symm,trivial,ln⟩
def Ca{P:Nat->Cn->Prop}{a b c d e:Cn}(h0:P 0 a)(h1:P 1 b)(h2:P 2 c)(h3:P 3 d)(h4:P 4 e){ext:Sg}(h5:∀i x,ext[i]? =some x->P (i+5) x):∀i x,(a::b::c::d::e::ext)[i]? =some x->P i x:=λi x q=>by
 rcases i with _|_|_|_|_|i
 ·obtain rfl:=ar q;exact h0
 ·obtain rfl:=ar q;exact h1
 ·obtain rfl:=ar q;exact h2
 ·obtain rfl:=ar q;exact h3
 ·obtain rfl:=ar q;exact h4
 ·exact h5 i x q
def Cb{f f':Fs}{h h':Hp}{o:cj}{lf:Int}{ml:Nat}(hg:∀k:Nat,k<5->∀a,f.l[k]? =some a->f'.l[k]? =some a)(r:iP f h (.buf none (Jy lf) ml) o):iP f' h' (.buf none (Jy lf) ml) o:=by
 refine r.imp (λj=>id) λvs b=>?_
 cases b with
 |mk us e q l=>
  refine⟨us,e,?_,l⟩;exact gx q λv ws q=>⟨bu q.1 (hg 1 aP),gx q.2 λv ws q=>⟨bu q.1 (hg 2 aP),gx q.2 λv ws q=>⟨bu q.1 (hg 3 aP),q.2⟩⟩⟩
def hide(e:w.σ=m.g [] us cs ks ext){P:Prop}(K:∀(w5:Wd)(R' C' K':ai),w5.h=w.h->w5.f=w.f.yt->R'.length=m.R.length+us.length->C'.length=m.C.length+cs.length->K'.length=m.K.length+ks.length->w5.σ=(m.pre R' C' K').g [] [] [] [] []->
  (∀(w':Wd)(m':Ma) rs cs' ks',w5.Le w'->w'.σ=(m'.pre R' C' K').g [] rs cs' ks' []->∃PV:Wd,PV.h=w'.h/\w.Le PV/\PV.σ=(m'.pre m.R m.C m.K).g [] (us++rs) (cs++cs') (ks++ks') ext)->P):P:=by
 have W:=w.ok;rw[e]at W;have at_:∀(i:Nat) c,(m.g [] us cs ks ext)[i]? =some c->w.σ[i]? =some c:=λi c q=>by rw[e];exact q
 obtain⟨R',bR⟩:=AH (at_ 1 _ rfl);obtain⟨C',bC⟩:=AH (at_ 2 _ rfl);obtain⟨K',bK⟩:=AH (at_ 3 _ rfl);have l5:5<=w.f.l.length:=by rw[w.ok.ln,e];exact cY 5 ext.length
 have h5:∀{c:Cn}{i:Nat},i<5->(Got w.f.l[i]? λa=>iP w.f.yt w.h c (w.h a))->Got w.f.yt.l[i]? λa=>iP w.f.yt w.h c (w.h a):=λl g=>by rw[n0 l];exact g
 refine K ⟨w.h,w.f.yt,(m.pre R' C' K').g [] [] [] [] [],⟨λa o q=>⟨(W.k a o q).1,λz=>(W.k a o q).2 (U0 _ a z)⟩,W.nd.sublist (List.take_sublist ..),(List.length_take_of_le l5),λa z=>?_,λa z n=>?_,?_⟩⟩ R' C' K' rfl rfl ?_ ?_ ?_ rfl ?_
 ·rcases fZ z with z|z
  ·exact W.zs a z
  ·exact W.some (List.mem_of_mem_drop z)
 ·rcases fZ z with z|z
  ·exact W.zn a z (List.mem_of_mem_take n)
  ·have nd:=W.nd;rw[<-List.take_append_drop 5 w.f.l]at nd;exact(List.nodup_append.mp nd).2.2 a n a z rfl
 ·refine Ca (P:=λi c=>Got w.f.yt.l[i]? λa=>iP w.f.yt w.h c (w.h a)) (h5 (c:=.bx m.s [] m.l) aP ((W.c 0 _ rfl).imp (λj=>id) λa r=>r)) (h5 aP (vV bR)) (h5 aP (vV bC)) (h5 aP (vV bK)) (h5 aP ((W.c 4 _ rfl).imp (λj=>id) λa r=>Cb (λk l a q=>(n0 l).trans q) r)) λi x q=>eA q
 ·cases bR with|mk _ _ _ _ _ l=>exact l
 ·cases bC with|mk _ _ _ _ _ l=>exact l
 ·cases bK with|mk _ _ _ _ _ l=>exact l
 ·intro w' m' rs cs' ks' L e';have W':=w'.ok;rw[e']at W';have ef:w'.f=w.f.yt:=aat (W'.ln.trans (List.length_take_of_le l5).symm) L.pre L.zz;rw[ef]at W';have L2:iA w.h w.f w'.h w.f:=⟨λa o q n=>L.keep a o q λz=>n (List.mem_of_mem_take z),L.live,λj j q=>q,λj=>.inl,rfl⟩
  have cv:∀{i:Nat}{p us left R' rs rl},i<5->B' w i p us left R'->(Got w.f.yt.l[i]? λa=>iP w.f.yt w'.h (.buf (some R') rs rl) (w'.h a))->Got w.f.l[i]? λa=>iP w.f w'.h (.buf p (us++rs) rl) (w'.h a):=λl b g=>by
   cases b with
   |mk a ea hv k _ _=>
    rw[n0 l,ea]at g
    cases g with
    |mk a' q r=>
     obtain rfl:=ar q;exact⟨a,ea,k L2 (Got.imp r (λj=>id) λxs b=>b.imp λus r=>ID (λk a q=>U2 q) (λa q=>U1 _ a q) r)⟩
  refine⟨⟨w'.h,w.f,(m'.pre m.R m.C m.K).g [] (us++rs) (cs++cs') (ks++ks') ext,⟨λa o q=>⟨(W'.k a o q).1,(W.k a o q).2⟩,W.nd,W.ln,λa z n=>W.zs a z (L.live a n),W.zn,?_⟩⟩,rfl,L2,rfl⟩;refine Ca (P:=λi c=>Got w.f.l[i]? λa=>iP w.f w'.h c (w'.h a)) ?_ (cv aP bR (W'.c 1 _ rfl)) (cv aP bC (W'.c 2 _ rfl)) (cv aP bK (W'.c 3 _ rfl)) ?_ λi x q=>?_
  ·exact(n0 (f:=w.f) (k:=0) aP▸W'.c 0 _ rfl).imp (λj=>id) λa r=>r
  ·exact(n0 (f:=w.f) (k:=4) aP▸W'.c 4 _ rfl).imp (λj=>id) λa r=>Cb (λk l a q=>(n0 l).symm.trans q) r
  ·cases W.c (i+5) x q with
   |mk a ea rc=>
    refine⟨a,ea,?_⟩;have na:a∉w.f.l.take 5:=λm=>xE (n:=5) (by omega) ea (.inl m)
    cases z:w.h a with
    |none=>exact(r8 rc z).elim|some o=>
     rw[z]at rc;rw[L.keep a o z na];exact jk L2 rc
end
noncomputable def bV.gY:bV->Bool|.int i=>decide (i.natAbs<=999000)|_=>true
def Rw.gY(r:Rw):Bool:=[r.a,r.b,r.c].all bV.gY
def Tg(p:Nat)(H:dN)(j y:Int):Prop:=∃k:Nat,j=((p+k:Nat):Int)/\H[k]? =some y
def lH(k0:Nat)(kk:aF)(j:Int)(k:Str):Prop:=∃i:Nat,j=((k0+i:Nat):Int)/\kk[i]? =some k
structure jM(base:Int)(T:Int->Int->Prop)(U:Int->Str->Prop)(i x:Int)(r:Rw):Prop where
 low:base<=x
 U3:d7 r=true
 sm:r.gY=true
 rest:∀(N:Nat) kinds,(∀j y,T j y->j<N)->(∀j k,U j k->xN kinds j k=true)->restOk N 1 kinds r=true
 tk:(dY r).1<=x
 jmp:fA r.op fM=true->T r.a.i0 (x-(dY r).1+(dY r).2)
 pL:fA r.op o4=false->T (i+1) (x-(dY r).1+(dY r).2)
abbrev Ps:=List (Rw×Int)
def eG(base:Int)(T:Int->Int->Prop)(U:Int->Str->Prop)(p:Nat)(ps:Ps):Prop:=∀(n:Nat) q,ps[n]? =some q->jM base T U ((p+n:Nat):Int) q.2 q.1
noncomputable def dX(ps:Ps):dN:=ps.map λq=>q.2
noncomputable def Wb(ps:Ps):List Rw:=ps.map λq=>q.1
inductive mu(base:Int)(p:Nat)(H:dN):Ct->Prop
 |mk (s a b t):(s=k' "rescue"\/s=k' "ensure")->a<b->b<=H.length->H[t]? =some (base+1)->mu base p H ⟨s,((p+a:Nat):Int),((p+b:Nat):Int),((p+t:Nat):Int),base⟩
structure Seg(base:Int)(p:Nat)(ps:Ps)(cs:e9)(k0:Nat)(kk:aF):Prop where
 rows:eG base (Tg p (dX ps++[base])) (lH k0 kk) p ps
 ent:(dX ps++[base])[0]? =some base
 cats:∀c∈cs,mu base p (dX ps) c
section
variable{base:Int}{T T':Int->Int->Prop}{U U':Int->Str->Prop}{p k0:Nat}{ps a b:Ps}{A H B:dN}{cs ya:e9}{kk k2:aF}{j y:Int}{k:Str}{c:Ct}
def jM.mono{i x:Int}{r:Rw}(h:jM base T U i x r)(t:∀j y,T j y->T' j y)(u:∀j k,U j k->U' j k):jM base T' U' i x r:=
 ⟨h.low,h.U3,h.sm,λN kinds f g=>h.rest N kinds (λj y q=>f j y (t j y q)) λj k q=>g j k (u j k q),h.tk,λe=>t _ _ (h.jmp e),λe=>t _ _ (h.pL e)⟩
def eG.mono(h:eG base T U p ps)(t:∀j y,T j y->T' j y)(u:∀j k,U j k->U' j k):eG base T' U' p ps:=λn q e=>(h n q e).mono t u
def eG.app(h:eG base T U p a)(h2:eG base T U (p+a.length) b):eG base T U p (a++b):=λn q e=>by
 by_cases l:n<a.length
 ·rw[fO l]at e;exact h n q e
 ·have l:=Nat.le_of_not_lt l;rw[fD l]at e;have:=h2 _ q e
  rwa [bf,Nat.add_sub_cancel' l]at this
def eG.nil:eG base T U p []:=λj j e=>eA e
def eG.one{r:Rw}{x:Int}(h:jM base T U p x r):eG base T U p [(r,x)]:=λn q e=>by
 cases n with
 |zero=>obtain rfl:=ar e;exact h|succ n=>exact eA e
def Tg.shift(t:Tg (p+A.length) H j y):Tg p (A++(H++B)) j y:=by
 obtain⟨k,e,q⟩:=t;refine⟨A.length+k,by rw[e,bf],?_⟩;rw[fD (aW _ _),hU,fO (dO q).1];exact q
def Tg.here:Tg p (A++y::B) ((p+A.length:Nat):Int) y:=⟨A.length,rfl,by rw[fD (aH _),Nat.sub_self];rfl⟩
def Tg.part(t:Tg (p+A.length) (H++[base]) j y):Tg p (A++(H++base::B)) j y:=by
 have:=Tg.shift (A:=A) (B:=B) t
 rwa [aQ]at this
def n4(e:(H++[base])[0]? =some base)(B:dN):∃C,H++base::B=base::C:=by
 cases H with
 |nil=>exact⟨B,rfl⟩|cons x H=>cases e;exact⟨H++base::B,rfl⟩
def lH.left(h:lH k0 kk j k):lH k0 (kk++k2) j k:=by
 obtain⟨i,e,q⟩:=h;exact⟨i,e,by rw[fO (dO q).1];exact q⟩
def lH.right(h:lH (k0+kk.length) k2 j k):lH k0 (kk++k2) j k:=by
 obtain⟨i,e,q⟩:=h;exact⟨kk.length+i,by rw[e,bf],by rw[fD (aW _ _),hU];exact q⟩
def mu.part(h:mu base (p+A.length) H c):mu base p (A++(H++B)) c:=by
 cases h with
 |mk s a b t hs l m q=>
  rw[bf,bf,bf];refine .mk s _ _ _ hs (Nat.add_lt_add_left l _) ?_ ?_
  ·rw[aE,aE];exact bc (aa m (aW _ _)) _
  ·rw[fD (aW _ _),hU,fO (dO q).1];exact q
def jN:dX (a++b)=dX a++dX b:=bM
def il:(dX a).length=a.length:=au ..
def Seg.nil(base:Int)(p k0:Nat):Seg base p [] [] k0 []:=⟨.nil,rfl,λj m=>qP m⟩
def Seg.app(x:Seg base p a cs k0 kk)(z:Seg base (p+a.length) b ya (k0+kk.length) k2):Seg base p (a++b) (cs++ya) k0 (kk++k2):=by
 have el:dX (a++b)++[base]=dX a++(dX b++[base]):=by rw[jN,aQ]
 have zr:=z.rows;have zc:=z.cats;rw[<-il (a:=a)]at zr zc;obtain⟨C,eC⟩:=n4 z.ent [];refine⟨(x.rows.mono (λj y t=>?_) λJ J=>lH.left).app ((il (a:=a))▸zr.mono (λj y t=>?_) λJ J=>lH.right),?_,λc m=>?_⟩
 ·rw[el,eC];exact Tg.part (A:=[]) (p:=p) t
 ·rw[el];exact Tg.part (A:=dX a) (B:=[]) t
 ·refine el▸eC▸?_;have:=x.ent
  cases e:dX a with
  |nil=>rfl|cons h t=>rw[e]at this;exact this
 ·rw[jN];rcases fZ m with m|m
  ·exact mu.part (A:=[]) (p:=p) (x.cats c m)
  ·have:=mu.part (A:=dX a) (B:=[]) (zc c m)
   rwa [c9]at this
end
noncomputable def jq:List (Nat×Bool)->(Nat->Int)->List bz
 |[],_=>[[]]
 |m::ms,x=>match m.2 with
  |true=>(List.range m.1).flatMap λd:Nat=>(jq ms λj=>x (j+1)).map λds=>((m.1:Int),(d:Int))::ds|false=>(jq ms λj=>x (j+1)).map λds=>((m.1:Int),x 0)::ds
def j9(s:String):Rw:=⟨k' s,.none,.none,.none⟩
def gA(s:String)(i:Int):Rw:=⟨k' s,.int i,.none,.none⟩
def dK(s:String)(i j:Int):Rw:=⟨k' s,.int i,.int j,.none⟩
def Qa(kd:Str)(d:Int):Cd:=⟨kd,[dK "getl" (bif kd==cG then 1 else 0) d,dK "setl" 0 1,dK "getl" 0 0,j9 "leave"],[],[0]⟩
inductive Lr where
 |n (r:Rw)
 |j (s:Str) (k:Nat)
 |ka (s:Str)
 |kb (s:Str) (a c:bV)
 |ks
 |ku
def AI(k:Int):bV:=.tup (k' "child") (.int k)
def Lr.rw(p:Nat)(k:Int):Lr->Rw
 |.n r=>r|.j s i=>⟨s,.int (p+i:Nat),.none,.none⟩
 |.ka s=>⟨s,.int k,.none,.none⟩
 |.kb s a c=>⟨s,a,.int k,c⟩
 |.ks=>⟨k' "send",.str (k' "each"),.int 0,.tup (k' "call") (AI k)⟩
 |.ku=>⟨k' "super",.int 1,AI k,.none⟩
def Qb(op:Str):Option Str:=match mZ op with|.a=>some (kdOf op)|.b=>some (kdOf op)|_=>none
def msL(op:Str):Lt->List (Nat×Bool)
 |.c=>(Qb op).elim (bif fA op sG then [(2,true)]else [(3,true)]) λj=>[(2,true)]
 |.b=>[(2,true)]
 |.s=>[(3,true),(2,true)]
 |.o=>[(2,true)]
 |.d=>[(8,true)]
 |.f=>[(2,true),(5,false),(4,false),(2,true)]
 |.i=>[(2,false),(5,true),(4,false),(2,true)]
 |.a=>[(2,false),(5,false),(4,true),(2,true)]
 |.p=>[]
 |_=>[(2,false),(5,false),(4,false),(2,true)]
noncomputable def dg(ds:dN)(i:Nat):Int:=(ds[i]?).getD 0
noncomputable def pk(os:List bV)(i:Int):bV:=(os[i.toNat]?).getD .none
def Qc:List bV:=[.none,.str (k' "pass")]
def acD(op:Str)(ds:dN):Lt->bV|.c=>.int (dg ds 0)|.b=>pk Qc (dg ds 0)|.s=>pk (BY.map λs=>.tup s (pk Qc (dg ds 1))) (dg ds 0)|.o=>pk (PZ.map .str) (dg ds 0)|.d=>pk (Zy.map .str) (dg ds 0)|.t=>.str (k' "x")|.f=>.bool (dg ds 0==0)|.i=>.int (dg ds 1-2)|.k=>.lst|.a=>.int (dg ds 2-1)|.r=>pk [.none,.int 1] (dg ds 3)|_=>.int 3
def aau(op:Str):d6->dN->List bV
 |[],_=>[]
 |l::ls,ds=>acD op ds l::aau op ls (ds.drop (msL op l).length)
def acE(op:Str)(os:List bV):Lr:=match mZ op with|.a=>.ka op|.b=>.kb op (pk os 0) (pk os 2)|.s=>.n ⟨op,.int 0,pk os 1,pk os 2⟩|_=>.n ⟨op,pk os 0,pk os 1,pk os 2⟩
def U4(t:Nat):List Lr:=(List.range t).map λk:Nat=>.n (gA "push" k)
def U5(q:Nat):List Lr:=List.replicate q (.n (j9 "pop"))
def U6(op:Str)(r:Lr):List Lr:=(bif fA op o4 then [.n (dK "getl" 0 0),.j (k' "jumpif") (3+(dY (r.rw 0 0)).1.toNat)]else [])++(U4 (dY (r.rw 0 0)).1.toNat++[r]++U5 (dY (r.rw 0 0)).2.toNat)
def DZ(op:Str)(ls:d6)(ds:dN):List Lr:=
 bif fA op fM then [.n (gA "push" 1),.j op 2]++bif fA op [k' "jump",k' "jumpnil"]then U5 1 else []else U6 op (acE op (aau op ls ds))
def NW(op:Str)(ds:dN):List (Str×Int):=(Qb op).elim [] λkd=>[(kd,dg ds (bif fA op [k' "lambda",k' "sclass"]then 0 else 4))]
def Qd(e:Str×d6×Int×Int):List (Nat×Bool):=bif fA e.1 fM then []else e.2.1.flatMap (msL e.1)
def Bx.adv(s:Bx)(ds:bz):Bx:=ds.foldl (λs p=>s.nx p.1) s
noncomputable def Ma.b(m:Ma)(ds:bz)(rs:List Lr)(ks:List (Str×Int)):Ma:=⟨m.s,m.l+ds.length,m.R,m.rl+rs.length,m.C,m.cl,m.K,m.kl+ks.length,m.lf,m.ml⟩
def Ma.a(m:Ma)(ds:bz):Ma:=⟨m.s.adv ds,m.l,m.R,m.rl,m.C,m.cl,m.K,m.kl,m.lf,m.ml⟩
def dM(q:Str×Int):Tr:=(Qa q.1 q.2).t0
def B1:Nat->Cl:=λj=>B9
def Cc(m:Ma)(ds:bz)(rs:List Lr)(ks:List (Str×Int)):aw:=some (.ret (.val .none) ((m.a ds).g [] ((rs.map (Lr.rw m.R.length (((m.K.length+1:Nat):Int)-1))).map Rw.t) [] (ks.map dM) []))
def aav(nm:Tr)(op:Str):bU:=[some (.cell 0),some (.cell 4),some nm,some (.val (str op)),some (.cell 1),none,none,none,none,none,none,none,none]
noncomputable def iE(ds:bz):dN:=ds.map λp=>p.2
def IE(n:Nat)(nm:Tr)(m:Ma)(e:Str×d6×Int×Int)(ds:bz):aw:=
 ((MP (dW B1 (n+6) false) (dW B1 (n+6) true) true (tl 2 jB)).s (aav nm e.1) ((m.b ds (DZ e.1 e.2.1 (iE ds)) (NW e.1 (iE ds))).g ds [] [] [] []) doneK).map (yo 5)
abbrev NX(l:List (Str×d6×Int×Int))(n:Nat)(nm:Tr)(m:Ma)(x:Nat->Int):Prop:=l.map (λe=>(jq (Qd e) x).map (IE n nm m e))=l.map λe=>(jq (Qd e) x).map λds=>Cc m ds (DZ e.1 e.2.1 (iE ds)) (NW e.1 (iE ds))
def Ce{α β:Type}{f g:α->β}{l:List α}(n:Nat)(a:(l.take n).map f=(l.take n).map g)(b:(l.drop n).map f=(l.drop n).map g):l.map f=l.map g:=by rw[<-List.take_append_drop n l,bM,bM,a,b]
def U7{n:Nat}{nm:Tr}{m:Ma}{x:Nat->Int}:NX (tab.take 53) n nm m x:=aO
def U8{n:Nat}{nm:Tr}{m:Ma}{x:Nat->Int}:NX ((tab.drop 53).take 1) n nm m x:=aO
def U9{n:Nat}{nm:Tr}{m:Ma}{x:Nat->Int}:NX ((tab.drop 53).drop 1) n nm m x:=aO
def NY{n:Nat}{nm:Tr}{m:Ma}{x:Nat->Int}:NX tab n nm m x:=Ce 53 U7 (Ce 1 U8 U9)
def vW(w:Nat)(ds:dN):List Lr:=match w with
 |0=>[.n (gA "push" (dg ds 0)),.n (dK "setl" 0 (dg ds 1))]
 |1=>[.n (gA "push" 1),.n (gA "push" 2),.n (j9 "dup2"),.n (gA "list" 3),.n (gA "tuck" 1),.n ⟨k' "spreadto",.int 1,pk [.none,.int 1] (dg ds 0),.int 1⟩]++U5 (4+(dg ds 0).toNat)|2=>.n (j9 "self")::(bif dg ds 1==0 then []else [.ka (k' "lambda")])++[bif dg ds 2==0 then(bif dg ds 1==0 then .ks else .n ⟨k' "send",.str (k' "each"),.int 0,.tup (k' "call") (.str (k' "pass"))⟩)else(bif dg ds 1==0 then .ku else .n ⟨k' "super",.int 1,.str (k' "pass"),.none⟩),.n (j9 "pop")]|_=>[.kb (k' "def") (.str (k' "f")) .none,.j (k' "jumpnil") 4,.n (j9 "dup"),.n (j9 "pop"),.n (j9 "pop")]
def AJ(w:Nat)(ds:dN):List (Str×Int):=match w with
 |0=>[]
 |1=>[]
 |2=>[(cG,dg ds 0)]
 |_=>[(k' "method",dg ds 0)]
noncomputable def IF(w:Nat):List (Nat×Bool):=match w with
 |0=>[(9,true),(2,true)]
 |1=>[(2,true)]
 |2=>[(2,true),(2,true),(2,true)]
 |_=>[(2,true)]
def IG(n:Nat)(m:Ma)(w:Nat)(ds:bz):aw:=dW B1 (n+6) false 487 [.cell 0,.cell 4,.val (int w)] ((m.b ds (vW w (iE ds)) (AJ w (iE ds))).g ds [] [] [] [])
def NZ{n:Nat}{m:Ma}{x:Nat->Int}:[0,1,2].map (λw=>(jq (IF w) x).map (IG n m w))=[0,1,2].map λw=>(jq (IF w) x).map λds=>Cc m ds (vW w (iE ds)) (AJ w (iE ds)):=aO
def Lr.r0(r:Lr):Rw:=r.rw 0 0
def Lr.e(r:Lr):Int×Int:=dY r.r0
def Lr.kd:Lr->Option Str|.ka s=>some (kdOf s)|.kb s _ _=>some (kdOf s)|.ks=>some cG|.ku=>some cG|_=>none
def Lr.want(p k N:Nat)(kinds:aF)(r:Lr):Bool:=match r with|.j s i=>(bV.int ((p+i:Nat):Int)).under N|r=>r.kd.elim true λd=>xN kinds k d
def Lr.fact(p k N:Nat)(kinds:aF)(r:Lr):Bool×(Int×Int)×Bool×Str:=(d7 (r.rw p k),dY (r.rw p k),restOk N 1 kinds (r.rw p k),(r.rw p k).op)
def Lr.N0(p k N:Nat)(kinds:aF)(r:Lr):Bool×(Int×Int)×Bool×Str:=(true,r.e,r.want p k N kinds,r.r0.op)
def vX:Int->List Lr->dN
 |x,[]=>[x]
 |x,r::rs=>x::vX (x-r.e.1+r.e.2) rs
def lst:Int->List Lr->Int|x,[]=>x|x,r::rs=>lst (x-r.e.1+r.e.2) rs
def okJ(H:dN)(x:Int):Lr->Bool|.j s i=>(H[i]?).elim false λy=>decide (y=x)|r=> !(fA r.r0.op fM)
def okS:Lr->Bool|.n r=>r.gY|.kb _ a c=>a.gY&&c.gY|_=>true
def okK(kk:aF)(r:Lr):Bool:=r.kd.elim true λd=>(kk[0]?).elim false (·==d)
def okR(kk:aF)(H:dN)(q:Lr×Int):Bool:=(decide (q.1.e.1<=q.2)&&decide (0<=q.2))&&(okJ H (q.2-q.1.e.1+q.1.e.2) q.1&&(okS q.1&&okK kk q.1))
def Qe(rs:List Lr)(kk:aF):Bool:=decide (lst 0 rs=0)&&(rs.zip (vX 0 rs)).all (okR kk (vX 0 rs))
structure Va(rs:List Lr)(kk:aF):Prop where
 b:Qe rs kk=true
 f:∀p k N kinds,rs.map (Lr.fact p k N kinds)=rs.map (Lr.N0 p k N kinds)
def uF(base:Int)(p k0:Nat)(rs:List Lr):Ps:=(rs.zip (vX 0 rs)).map λq=>(q.1.rw p k0,base+q.2)
section
variable{base x y:Int}{p k k0 N:Nat}{rs:List Lr}{kk kinds:aF}{r:Lr}{H:dN}
def II{n:Nat}:∀{rs:List Lr}{x:Int},rs[n]? =some r->(vX x rs)[n]? =some y->(vX x rs)[n+1]? =some (y-r.e.1+r.e.2):=by
 induction n with
 |zero=>exact λ{rs x} e e2=>by cases rs with
  |nil=>exact eA e|cons r rs=>
   obtain rfl:=ar e;cases e2;show(vX (y-r.e.1+r.e.2) rs)[0]? =_
   cases rs<;>rfl
 |succ n ih=>exact λ{rs x} e e2=>by cases rs with
  |nil=>exact eA e|cons r rs=>exact ih (rs:=rs) e e2
def N3:∀{rs:List Lr}{x:Int},((rs.zip (vX x rs)).map λq=>q.2)++[lst x rs]=vX x rs:=by
 intro rs
 induction rs with
 |nil=>exact rfl|cons r rs ih=>exact λ{x}=>ak (x::·) ih
def Cg:∀{rs:List Lr}{x:Int},((rs.zip (vX x rs)).map λq=>q.1)=rs:=by
 intro rs
 induction rs with
 |nil=>exact rfl|cons r rs ih=>exact λ{x}=>ak (r::·) ih
def IJ(h:okS r=true)(hp:p<=900000)(hk:k<=900000)(l:∀i s,r=.j s i->i<=90000):(r.rw p k).gY=true:=by
 have num:∀{i:Nat},i<=999000->(bV.int i).gY=true:=λh=>aZ (p:=Int.natAbs _<=999000) h;have go:∀{a b c:bV}{s:Str},a.gY=true->b.gY=true->c.gY=true->(Rw.mk s a b c).gY=true:=λh1 h2 h3=>by
  show(_&&(_&&(_&&true)))=true
  rw[h1,h2,h3];rfl
 cases r with
 |n r=>exact h|j s i=>exact go (num (aa (cJ hp (l i s rfl)) aP)) rfl rfl|ka s=>exact go (num (aa hk aP)) rfl rfl|kb s a c=>exact go (aA h).1 (num (aa hk aP)) (aA h).2|ks=>exact go rfl rfl rfl|ku=>exact go rfl rfl rfl
def Ci(h:lst 0 rs=0):dX (uF base p k0 rs)++[base]=(vX 0 rs).map (base+·):=by
 rw[<-N3,bM,h];show((List.map _ (rs.zip _)).map _)++_=_
 rw[dq,dq];exact ak (_++[·]) (Int.add_zero base).symm
def N4:Wb (uF base p k0 rs)=rs.map (Lr.rw p k0):=by
 show(List.map _ (rs.zip _)).map _=_
 rw[dq,<-Cg (rs:=rs) (x:=0),dq,Cg];rfl
def IK{n:Nat}{y:Int}(e:(vX 0 rs)[n]? =some y):((vX 0 rs).map (base+·))[n]? =some (base+y):=by rw[cy,e];rfl
def vY:∀{rs:List Lr}{x:Int},(vX x rs).length=rs.length+1:=by
 intro rs
 induction rs with
 |nil=>exact rfl|cons r rs ih=>exact ak (·+1) ih
def aaw(o:okJ H x r=true)(z:fA r.r0.op fM=true):∃s i,r=.j s i:=by
 have no:(!(fA r.r0.op fM))=true->False:=λh=>by rw[z]at h;exact iM h
 cases r with
 |j s i=>exact⟨s,i,rfl⟩|_=>exact(no o).elim
def IL(b0:0<=base)(h:Va rs kk)(hp:p<=900000)(hk:k0<=900000)(hl:rs.length<=80000):Seg base p (uF base p k0 rs) [] k0 kk:=by
 obtain⟨hb,hf⟩:=h;have l0:lst 0 rs=0:=cf (aA hb).1;have all:=bQ (aA hb).2;refine⟨λn q e=>?_,?_,λJ m=>qP m⟩
 ·refine(Ci l0)▸?_;obtain⟨⟨r,y⟩,ez,rfl⟩:=dA ((cy (l:=rs.zip (vX 0 rs))).symm.trans e);have m:=List.mem_of_getElem? ez;have ok:=aA (all _ m);have ok1:=aA ok.1;have UQ:=aA ok.2;have ok3:=aA UQ.2;have h1:r.e.1<=y:=cf ok1.1;have h2:0<=y:=cf ok1.2;obtain⟨er,ey⟩:=List.getElem?_zip_eq_some.mp ez;have fr:=λN kinds=>map_eq (hf p k0 N kinds) (List.mem_of_getElem? er);have f1:d7 (r.rw p k0)=true:=ak (λq=>q.1) (fr 0 []);have f2:dY (r.rw p k0)=r.e:=ak (λq=>q.2.1) (fr 0 []);have f4:(r.rw p k0).op=r.r0.op:=ak (λq=>q.2.2.2) (fr 0 []);have tj:∀s i,r=.j s i->Tg p ((vX 0 rs).map (base+·)) ((p+i:Nat):Int) (base+y-r.e.1+r.e.2)/\i<=80000:=λs i z=>by
   have jj:okJ (vX 0 rs) (y-r.e.1+r.e.2) r=true:=UQ.1;rw[z]at jj;have jj:((vX 0 rs)[i]?).elim false (λu=>decide (u=y-r.e.1+r.e.2))=true:=(z▸jj)
   cases q:(vX 0 rs)[i]? with
   |none=>rw[q]at jj;exact iM jj|some u=>
    rw[q]at jj;have:=cf (p:=u=y-r.e.1+r.e.2) jj;refine⟨⟨i,rfl,by rw[IK q,this];exact ak some (by lia)⟩,?_⟩;have:=(dO q).1;rw[vY]at this;lia
  refine⟨Int.le_add_of_nonneg_right h2,f1,IJ ok3.1 hp hk λi s z=>aa (tj s i z).2 aP,λN kinds T U=>?_,by rw[f2];show r.e.1<=base+y;omega,λz=>?_,λz=>?_⟩
  ·refine(ak (λq=>q.2.2.1) (fr N kinds)).trans ?_
   show r.want p k0 N kinds=true
   have VZ:∀d,r.kd=some d->xN kinds k0 d=true:=λd z=>U _ _ ⟨0,rfl,by
    have:=ok3.2;unfold okK at this;rw[show(r,y).1=r from rfl,z]at this
    cases q:kk[0]? with
    |none=>rw[q]at this;exact iM this|some u=>rw[q]at this;exact ak some (eq_of_beq this)⟩
   cases r with
   |j s i=>exact aZ (T _ _ (tj s i rfl).1)|n r=>exact rfl|ka s=>exact VZ _ rfl|kb s a c=>exact VZ _ rfl|ks=>exact VZ _ rfl|ku=>exact VZ _ rfl
  ·rw[f2];obtain⟨s,i,rfl⟩:=aaw UQ.1 ((f4▸z));exact(tj s i rfl).1
  ·rw[f2];exact⟨n+1,rfl,by rw[IK (II er ey)];exact ak some (by lia)⟩
 ·rw[Ci l0]
  cases rs with
  |nil=>exact ak some (Int.add_zero base)|cons r rs=>exact ak some (Int.add_zero base)
end
def D0(q:Str×Int):Bool:=fA q.1 [cG,k' "method",k' "class"]&&(decide (q.2=0)||decide (q.2=1))
def IM(rs:List Lr)(ks:List (Str×Int)):Bool:=Qe rs (ks.map λq=>q.1)&&(ks.all D0&&(Nat.ble rs.length 40&&(Nat.ble ks.length 1&&Nat.ble 1 rs.length)))
section
variable{x:Nat->Int}{p k N:Nat}{kinds:aF}
def aax:(tab.all λe=>(jq (Qd e) x).all λds=>IM (DZ e.1 e.2.1 (iE ds)) (NW e.1 (iE ds)))=true:=aO
def aay:tab.map (λe=>(jq (Qd e) x).map λds=>(DZ e.1 e.2.1 (iE ds)).map (Lr.fact p k N kinds))=tab.map λe=>(jq (Qd e) x).map λds=>(DZ e.1 e.2.1 (iE ds)).map (Lr.N0 p k N kinds):=aO
def Qf:([0,1,2,3].all λw=>(jq (IF w) x).all λds=>IM (vW w (iE ds)) (AJ w (iE ds)))=true:=aO
def Qg:[0,1,2,3].map (λw=>(jq (IF w) x).map λds=>(vW w (iE ds)).map (Lr.fact p k N kinds))=[0,1,2,3].map λw=>(jq (IF w) x).map λds=>(vW w (iE ds)).map (Lr.N0 p k N kinds):=aO
end
def ip:∀{ms:List (Nat×Bool)}(b:Bw),(ms.all λm=>Nat.blt 0 m.1)=true->∃x ds,ds∈jq ms x/\Yl b ds/\ds.length=ms.length:=by
 intro ms
 induction ms with
 |nil=>exact λb J=>⟨λJ=>0,[],.head _,trivial,rfl⟩
 |cons m ms ih=>
  intro b h;have h:=aA h;have k0:(0:Int)<m.1:=Int.ofNat_lt.mpr (bg h.1);obtain⟨x,ds,hm,hy,hl⟩:=ih (b.pL m.1) h.2;refine⟨λj=>match j with|0=>b.dig m.1|j+1=>x j,((m.1:Int),b.dig m.1)::ds,?_,⟨rfl,hy⟩,ak (·+1) hl⟩;have lo:=UX b k0;have hi:=UY b k0
  cases m with
  |mk k c=>cases c with
   |false=>exact jb ⟨ds,hm,rfl⟩|true=>exact List.mem_flatMap.mpr ⟨(b.dig k).toNat,List.mem_range.mpr ((Int.toNat_lt lo).mpr hi),jb ⟨ds,hm,by rw[Int.toNat_of_nonneg lo]⟩⟩
structure mM(m:Ma)(n:Nat):Prop where
 l:n<=m.l
 r:n<=m.rl
 c:n<=m.cl
 k:n<=m.kl
def jy(ps:Ps):ah:=(Wb ps).map Rw.t
noncomputable def ng(ks:List (Str×Int)):aF:=ks.map λq=>q.1
structure PcR(m m':Ma)(base:Int)(n:Nat)(ps:Ps)(cs:e9)(ks:List (Str×Int)):Prop where
 has:∀c,mM m (c+n)->mM m' c
 lr:ps.length<=n
 ne:1<=ps.length
 lc:cs.length<=n
 lk:ks.length<=n
 seg:Seg base m.R.length ps cs m.K.length (ng ks)
 DV:ks.all D0=true
def N5(w:Wd)(m:Ma)(base:Int)(n:Nat)(Q:bA):Prop:=∀(w':Wd)(m':Ma) ps cs ks,w.Le w'->w'.σ=(m'.pre m.R m.C m.K).g [] (jy ps) (cs.map Ct.t) (ks.map dM) []->PcR m m' base n ps cs ks->Q w'.h
noncomputable def Ma.u(m:Ma)(ds:bz)(rs:List Lr)(ks:List (Str×Int)):Ma:=⟨m.s,m.l-ds.length,m.R,m.rl-rs.length,m.C,m.cl,m.K,m.kl-ks.length,m.lf,m.ml⟩
section
variable{w:Wd}{m:Ma}{base:Int}{ds:bz}{rs:List Lr}{ks:List (Str×Int)}{Q:bA}{X:bA}{n:Nat}{v0 v4:Value}
def ub(h:mM m 40)(l1:ds.length<=40)(l2:rs.length<=40)(l3:ks.length<=40):(m.u ds rs ks).b ds rs ks=m:=by
 unfold Ma.u Ma.b;rw[eM (aa l1 h.l),eM (aa l2 h.r),eM (aa l3 h.k)]
def AK(K:N5 w m base 40 Q)(h:mM m 40)(b0:0<=base)(hp:m.R.length<=900000)(hk:m.K.length<=900000)(l1:ds.length<=40)(c:IM rs ks=true)(f:∀p k N kinds,rs.map (Lr.fact p k N kinds)=rs.map (Lr.N0 p k N kinds)){o:Out}(eo:some o=Cc (m.u ds rs ks) ds rs ks):Kq w o (λj h=>Q h) X:=by
 have c1:=aA c;have c2:=aA c1.2;have c3:=aA c2.2;have l2:=bg c3.1;have l3:=bg (aA c3.2).1;obtain rfl:=ar eo;refine⟨λt σ e w' v L s r=>?_,nofun⟩;injection e with e1 e2
 have sg:=IL (p:=m.R.length) (k0:=m.K.length) b0 ⟨c1.1,f⟩ hp hk (aa l2 aP);refine K w' ((m.u ds rs ks).a ds) (uF base m.R.length m.K.length rs) [] ks L ?_ ⟨λc h=>⟨?_,?_,?_,?_⟩,?_,?_,bO _,aa l3 aP,sg,c2.1⟩
 ·rw[s,<-e2];have:(((m.K.length+1:Nat):Int)-1)=m.K.length:=Int.add_sub_cancel (m.K.length:Int) 1;show((m.u ds rs ks).a ds).g [] ((rs.map (Lr.rw m.R.length (((m.K.length+1:Nat):Int)-1))).map Rw.t) [] (ks.map dM) []=_
  rw[this];unfold jy;rw[N4];rfl
 ·exact gi (aa (bc l1 c) h.l)
 ·exact gi (aa (bc l2 c) h.r)
 ·exact aa (aW c 40) h.c
 ·exact gi (aa (bc (aa l3 aP) c) h.k)
 ·unfold uF;rw[au,List.length_zip,vY];exact aa (Nat.min_le_left _ _) l2
 ·unfold uF;rw[au,List.length_zip,vY];exact Nat.le_min.mpr ⟨bg (aA c3.2).2,cY 1 _⟩
def nh{sp:Spec}{s:S}{f:Sv}{ρt ρ1:bU}{ρ:aS}{σ:Sg}{Q:lM}(T:Ty sp s f)(r:gR w ρt ρ)(e:∀k,f ρt w.σ k=k ρ1 σ)(K:Kst w ρ1 σ λρ' h=>Q (.next ρ') h):wpS sp aG s ρ w.h Q X:=
 T ⟨w,ρt,ρ,.mark,r⟩ (Ju ρ1 σ) Q X ((e _).trans (lZ ρ1 σ)) ⟨nofun,nofun⟩ λw' u ρ' L r e=>Ah K L r e
def Vb(wy:Nat)(hw:wy∈[0,1,2])(e:w.σ=m.g [] [] [] [] [])(h:mM m 40)(b0:0<=base)(hp:m.R.length<=900000)(hk:m.K.length<=900000)(r0:w.R (.cell 0) v0)(r4:w.R (.cell 4) v4)(K:N5 w m base 40 Q):bt du aG (n+6) 487 [v0,v4,int wy] w.h (λj h=>Q h) X:=by
 have hw':wy∈[0,1,2,3]:=List.mem_of_mem_take (i:=3) hw;obtain⟨x,ds,md,yl,ln⟩:=ip (ms:=IF wy) m.s.b (bQ (show([0,1,2].all λw=>(IF w).all λm=>Nat.blt 0 m.1)=true by kernel_rfl) wy hw);have l1:ds.length<=40:=ln▸bg (bQ (show([0,1,2].all λw=>Nat.ble (IF w).length 40)=true by kernel_rfl) wy hw);have c:=bQ (bQ (Qf (x:=x)) wy hw') ds md;have f:=λp k N kinds=>map_eq (map_eq (Qg (x:=x) (p:=p) (k:=k) (N:=N) (kinds:=kinds)) hw':) md;have c3:=aA (aA (aA c).2).2;have l2:=bg c3.1;have l3:=bg (aA c3.2).1;have run:=map_eq (map_eq (NZ (n:=n) (m:=m.u ds (vW wy (iE ds)) (AJ wy (iE ds))) (x:=x)) hw:) md;unfold IG at run;rw[ub h l1 l2 (aa l3 aP)]at run;have E:=AK (X:=X) K h b0 hp hk l1 c f rfl;exact(a9 (λj=>vU) (n+6) false).fn (w:=w.gh ds e yl) rfl run ⟨r0,r4,⟨rfl,rfl⟩,trivial⟩ E.1 E.2
end
def aaz:ah:=((dW B1 2 false 427 [] []).bind vA).elim [] λq=>(uq [] q.1).elim [] λq=>q.2
def aaA:Cn:=.mV (tab.map λe=>e.1) aaz
def nmT(f:Nat->Str):Tr:=.lst ((List.range 60).map λi=>.val (str (f i)))
def anyS(n i:Nat):Zp:=MP (dW B1 (n+6) false) (dW B1 (n+6) true) true (aU i jB)
noncomputable def Vc(nm:aT):bU:=[some (.cell 0),some (.cell 4),nm,none,none,none,none,none,none,none,none,none,none]
section
variable{w:Wd}{m:Ma}{base:Int}{ds:bz}{ks:List (Str×Int)}{Q:bA}{X:bA}{n:Nat}{v0 v4:Value}{σ:Sg}
def cq(n:Nat):Zx n (B1 n):=vU
def tab_run:DG (dW B1 (n+5) false) (dW B1 (n+5) true) true pz [] (m.g [] [] [] [] [])=some (.ret (.cell 5) (m.g [] [] [] [] [aaA])):=aO
def N6{sp:Spec}{ρ:aS}{h:Hp}{QQ:lM}(k:sp 427 [] h (λv h=>kc aG "sorted" [v] h λy h=>bH sp aG (tl 1 jB) (ρ.set 2 (some y)) h QQ X) X):bH sp aG jB ρ h QQ X:=(dD.fn (tb:=aG) rfl k:dD sp aG [] h (λv h=>kc aG "sorted" [v] h λy h=>bH sp aG (tl 1 jB) (ρ.set 2 (some y)) h QQ X) X 427)
def aaB(f:Nat->Str)(k:gZ):(List.range 60).map (λd:Nat=>(anyS n 1).o (Vc (some (nmT f))) ((m.b [(60,d)] [] []).g [(60,d)] [] [] [] []) k)=(List.range 60).map λd=>k (aav (nmT f) (f d)) ((m.a [(60,d)]).g [] [] [] [] []):=aO
def D1{ss:aF}(d:Str):ss=(List.range ss.length).map λi:Nat=>(ss[i]?).getD d:=by
 refine List.ext_getElem (by rw[au,List.length_range]) λi h1 h2=>?_;rw[List.getElem_map,List.getElem_range,bN h1];rfl
def Vd(e:w.σ=m.g [] [] [] [] [])(h:mM m 41)(b0:0<=base)(hp:m.R.length<=900000)(hk:m.K.length<=900000)(r0:w.R (.cell 0) v0)(r4:w.R (.cell 4) v4)(K:N5 w m base 41 Q):bt du aG (n+7) 480 [v0,v4] w.h (λj h=>Q h) X:=by
 have C:=a9 cq (n+6) false;have D:=a9 cq (n+6) true;have R0:gR w (Vc none) (args oq [v0,v4]):=kX (F:=oq) (ts:=[.cell 0,.cell 4]) rfl ⟨r0,r4,trivial⟩;refine⟨oq,rfl,aH 2,aH 2,?_⟩;refine N6 (vJ (md:=true) (o:=.ret (.cell 5) (m.g [] [] [] [] [aaA])) (a9 cq (n+5) false) (a9 cq (n+5) true) (F:=pz) (ts:=[]) rfl (e▸tab_run) trivial ⟨λt σ q QD v L1 s1 rv=>?_,nofun⟩);injection q with q1 q2
 subst q1 q2;refine jl (C:=λv=>kc aG "sorted" [v] QD.h _) rv (by rw[s1];rfl) λa ea rc=>?_
 cases rc with
 |mk es0 md rd=>cases rd with
  |mk vs' ez rv'=>
  subst ez;have kf:((tab.map λe=>e.1).zip vs').map (λe=>e.1)=tab.map λe=>e.1:=List.map_fst_zip (by rw[bw rv'];exact bg (aO));refine .sorted rfl ⟨_,Bs md,?_,λss pm=>?_⟩
  ·rw[<-au (f:=λe=>e.1),kf];exact bg (aO)
  generalize ew:QD.fz 5=w1;have L1:w.Le w1:=ew▸Wd.xF L1 (by rw[e];exact aH 5);have s1:w1.σ=m.g [] [] [] [] []:=by rw[<-ew];show MN 5 QD.σ=_;rw[s1];rfl
  rw[show QD.h=w1.h by rw[<-ew];rfl];rw[kf]at pm;have l60:ss.length=60:=pm.length_eq.trans (aO);have es:=D1 (ss:=ss) (k' "");rw[l60]at es;generalize hf:(λi:Nat=>(ss[i]?).getD (k' ""))=f at es;have YG:∀d,d∈List.range 60->∃e,e∈tab/\e.1=f d:=λd md=>by
   have:f d∈ss:=es▸List.mem_map_of_mem md;exact ja (pm.mem_iff.mp this)
  have nmv:w1.L ((List.range 60).map λi=>.val (str (f i))) (ss.map str):=by
   rw[es];have:∀l:aC,w1.L (l.map λi=>.val (str (f i))) ((l.map f).map str):=λl=>by
    induction l with
    |nil=>exact trivial|cons x l ih=>exact⟨⟨rfl,rfl⟩,ih⟩
   exact this _
  refine Kx.lst (λw2 y L2 s2 r2=>?_) nmv;have R2:gR w2 (Vc (some (nmT f))) ((args oq [v0,v4]).set 2 (some y)):=qJ (bo (L1.trans L2) R0) 2 r2;have e2:w2.σ=m.g [] [] [] [] []:=s2.trans s1;obtain⟨x,ds,md,yl,ln⟩:=ip (ms:=[(60,true)]) m.s.b rfl;obtain⟨d,md1,rfl⟩:∃d,d∈List.range 60/\ds=[((60:Int),((d:Nat):Int))]:=by
   obtain⟨d,hd,q⟩:=List.mem_flatMap.mp md;exact⟨d,hd,cI q⟩
  have h1:(m.u [(60,(d:Int))] [] []).b [(60,d)] [] []=m:=ub ⟨de h.l,de h.r,de h.c,de h.k⟩ (show 1<=40 by decide) (bO _) (bO _);have a1:=λk=>map_eq (aaB (n:=n) (m:=m.u [(60,(d:Int))] [] []) f k) md1;rw[h1]at a1;refine nh (w:=w2.gh _ e2 yl) (sp:=bt du aG (n+6)) (cF C D true (aU 1 jB)).o ⟨R2.1,R2.2⟩ a1 λw3 ρ3 L3 s3 R3=>?_;obtain⟨en,me,ee⟩:=YG d md1;rw[<-ee]at R3;obtain⟨x,ds,md,yl,ln⟩:=ip (ms:=Qd en) ((m.u [(60,(d:Int))] [] []).a [(60,d)]).s.b (bQ (show(tab.all λe=>(Qd e).all λm=>Nat.blt 0 m.1)=true by kernel_rfl) en me);have l1:ds.length<=40:=ln▸bg (bQ (show(tab.all λe=>Nat.ble (Qd e).length 40)=true by kernel_rfl) en me);have c:=bQ (bQ (aax (x:=x)) en me) ds md;have ff:=λp k N kinds=>map_eq (map_eq (aay (x:=x) (p:=p) (k:=k) (N:=N) (kinds:=kinds)) me:) md;have c3:=aA (aA (aA c).2).2;have h4:mM ((m.u [(60,(d:Int))] [] []).a [(60,d)]) 40:=⟨show 40<=m.l-1 from gi h.l,aa aP h.r,aa aP h.c,aa aP h.k⟩
  have run:=map_eq (map_eq (NY (n:=n) (nm:=nmT f) (m:=((m.u [(60,(d:Int))] [] []).a [(60,d)]).u ds (DZ en.1 en.2.1 (iE ds)) (NW en.1 (iE ds))) (x:=x)) me:) md;unfold IE at run;rw[ub h4 l1 (bg c3.1) (aa (bg (aA c3.2).1) aP)]at run;obtain⟨o,eo,ef⟩:=dA run;have E:Kq (w3.gh ds s3 yl) o (λj h=>Q h) X:=by
   have:=AK (w:=w3.gh ds s3 yl) (m:=(m.u [(60,(d:Int))] [] []).a [(60,d)]) (base:=base) (o:=yo 5 o) (X:=X) (λw' m' ps cs ks L s r=>K w' m' ps cs ks (((L1.trans L2).trans L3).trans L) s ⟨λc hc=>r.has c ⟨show c+40<=m.l-1 from gi hc.l,de hc.r,de hc.c,de hc.k⟩,hP r.lr,r.ne,hP r.lc,hP r.lk,r.seg,r.DV⟩) h4 b0 hp hk l1 c ff (ak some ef);exact PQ (w:=w3.gh ds s3 yl) this
  exact(cF C D true (tl 2 jB)).s ⟨w3.gh ds s3 yl,_,ρ3,o,⟨R3.1,R3.2⟩⟩ doneK _ _ eo E (mI (P:=⟨w3.gh ds s3 yl,_,ρ3,o,⟨R3.1,R3.2⟩⟩) E)
end
def IP(y:Int)(a:aT):bU:=[some (.cell 0),some (.cell 4),some (.val (int y)),a,none,none,none,none]
abbrev i9(n:Nat)(md:Bool)(s:S):Zp:=MP (dW B1 n false) (dW B1 n true) md s
def sq(sp:Spec)(n:Nat)(s:S)(ρ:aS)(h:Hp)(Q:lM)(X:bA):Prop:=bH sp aG (hd n s) ρ h (λfl h'=>eZ fl (λρ'=>bH sp aG (tl n s) ρ' h' Q X) λv=>Q (.ret v) h') X
section
variable{w:Wd}{m:Ma}{base:Int}{Q:bA}{X:bA}{n:Nat}{v0 v4:Value}{y:Int}{σ:Sg}
def aaC(k:gZ):[3,4,5,6].map (λy:Int=>(i9 (n+7) false (hd 4 jd)).s (IP y none) (m.g [] [] [] [] []) k)=[3,4,5,6].map λy:Int=>k (IP y (some (.app (.cell 1)))) (m.g [] [] [] [] []):=aO
def aaD{a:aT}(k:Ko):[3,4,5,6].map (λy:Int=>(gz (dW B1 (n+7) false) (dW B1 (n+7) true) (.cmp (.loc 2) (.jz .Gt (.lit (int 2)) .nil))).e (IP y a) σ k)=[3,4,5,6].map λy:Int=>k (.val (.bool true)) σ:=aO
def aaE{a:aT}{k:ah->Sg->aw}:(gz (dW B1 (n+7) false) (dW B1 (n+7) true) (.cons (.loc 0) (.cons (.loc 1) .nil))).s (IP y a) σ k=k [.cell 0,.cell 4] σ:=aO
def aaF:dW B1 (n+8) false 487 [.cell 0,.cell 4,.val (int (-1))] (m.g [] [] [] [] [])=some (.ret (.val .none) (m.g [] [] [] [] [])):=aO
def N7:sq (bt du aG n) 4 jd ρ h QQ X->bH (bt du aG n) aG jd ρ h QQ X:=id
def N8{sp:Spec}{ρ:aS}{h:Hp}{QQ:lM}(k:eB sp aG ρ (.cmp (.loc 2) (.jz .Gt (.lit (int 2)) .nil)) h (λv h1=>dh v λb=>mO b (fP sp aG ρ (.cons (.loc 0) (.cons (.loc 1) .nil)) h1 (λvs h2=>dD sp aG vs h2 (λj h3=>QQ (.next ρ) h3) X 480) X) (QQ (.next ρ) h1)) X):bH sp aG (tl 4 jd) ρ h QQ X:=k
def N9(hy:y∈[3,4,5,6])(e:w.σ=m.g [] [] [] [] [])(h:mM m 41)(b0:0<=base)(hp:m.R.length<=900000)(hk:m.K.length<=900000)(r0:w.R (.cell 0) v0)(r4:w.R (.cell 4) v4)(K:N5 w m base 41 Q):bt du aG (n+8) 487 [v0,v4,int y] w.h (λj h=>Q h) X:=by
 have C:=a9 cq (n+7) false;have D:=a9 cq (n+7) true;have R0:gR w (IP y none) (args kI [v0,v4,int y]):=kX (F:=kI) (ts:=[.cell 0,.cell 4,.val (int y)]) rfl ⟨r0,r4,⟨rfl,rfl⟩,trivial⟩;refine⟨kI,rfl,aH 3,aH 3,N7 (l6 (cF C D false _).s R0 (λk=>e▸map_eq (aaC k) hy) λw1 ρ1 L1 s1 R1=>N8 (mY (dv C D _).e R1 (λk=>map_eq (aaD k) hy) λw2 v L2 s2 rv=>?_))⟩;rw[rv.1];refine qe (dv C D _).s (bo L2 R1) (λk=>aaE) λw3 vs L3 s3 rs=>dD.fn rfl (g2 (C:=λvs=>bt du aG (n+7) 480 vs w3.h _ X) (pO rs rfl) λa b rab=>?_);exact Vd (s3.trans (s2.trans (s1.trans e))) h b0 hp hk rab.1 rab.2 λw' m' ps cs ks L s r=>K w' m' ps cs ks (((L1.trans L2).trans L3).trans L) s r
def Ve(e:w.σ=m.g [] [] [] [] [])(r0:w.R (.cell 0) v0)(r4:w.R (.cell 4) v4)(K:∀w',w.Le w'->w'.σ=m.g [] [] [] [] []->Q w'.h):bt du aG (n+8) 487 [v0,v4,int (-1)] w.h (λj h=>Q h) X:=
 (a9 cq (n+8) false).fn (w:=w) (ts:=[.cell 0,.cell 4,.val (int (-1))]) (o:=.ret (.val .none) (m.g [] [] [] [] [])) rfl (by rw[e];exact aaF) ⟨r0,r4,⟨rfl,rfl⟩,trivial⟩ (λt σ q w' v L s r=>by
  injection q with q1 q2
  exact K w' L (s.trans q2.symm)) nofun
end
def jS:aF:=[k' "jump",k' "jumpif",k' "jumpunless"]
def jT(s:Str):Int:=bif s==k' "jump"then 0 else 1
noncomputable def jR(s:Str)(j:Nat):Rw:=⟨s,.int j,.none,.none⟩
section
variable{base x i:Int}{T:Int->Int->Prop}{U:Int->Str->Prop}{p k0:Nat}{ps a b:Ps}{A H B:dN}{cs ya:e9}{kk k2:aF}{y:Int}{s:Str}{j:Nat}{r:Rw}{t q:Int}
def Vf:jS.map (λs=>d7 (jR s j))=jS.map λJ=>true:=aO
def aaG:jS.map (λs=>dY (jR s j))=jS.map λs=>(jT s,0):=aO
def Vg{N:Nat}{kinds:aF}:jS.map (λs=>restOk N 1 kinds (jR s j))=jS.map λJ=>decide ((j:Int)<N):=aO
def aaH:jS.map (λs=>fA s o4)=jS.map λs=>s==k' "jump":=aO
def IQ(hs:s∈jS)(hj:j<=900000)(low:base<=x)(tk:jT s<=x)(jmp:T j (x-jT s))(pL:(s==k' "jump")=false->T (i+1) (x-jT s)):jM base T U i x (jR s j):=by
 have e:=map_eq (aaG (j:=j)) hs;refine⟨low,map_eq (Vf (j:=j)) hs,?_,λN kinds f J=>(map_eq (Vg (j:=j)) hs).trans (aZ (f _ _ jmp)),by rw[e];exact tk,λJ=>?_,λz=>?_⟩
 ·show(decide ((j:Int).natAbs<=999000)&&true)=true
  rw[aZ (p:=(j:Int).natAbs<=999000) (aa hj aP)];rfl
 ·rw[e]
  show T j (x-jT s+0)
  rw[Int.add_zero];exact jmp
 ·rw[e]
  show T (i+1) (x-jT s+0)
  rw[Int.add_zero];exact pL ((map_eq aaH hs).symm.trans z)
def acF(r:Rw)(t q:Int):Bool:=d7 r&&(r.gY&&(decide (dY r=(t,q))&& !(fA r.op fM)))
def tN(c:acF r t q=true)(rest:∀N kinds,restOk N 1 kinds r=true)(low:base<=x)(tk:t<=x)(pL:fA r.op o4=false->T (i+1) (x-t+q)):jM base T U i x r:=by
 have c1:=aA c;have c2:=aA c1.2;have c3:=aA c2.2;have e:dY r=(t,q):=cf c3.1;refine⟨low,c1.1,c2.1,λN kinds j j=>rest N kinds,by rw[e];exact tk,λz=>?_,λz=>by rw[e];exact pL z⟩;have:=c3.2;rw[z]at this;exact iM this
def eG.cons(h:jM base T U p x r)(h2:eG base T U (p+1) ps):eG base T U p ((r,x)::ps):=eG.app (a:=[(r,x)]) (.one h) h2
def Tg.at(e:H=A++y::B)(ej:i=((p+A.length:Nat):Int)):Tg p H i y:=by rw[e,ej];exact Tg.here
def aaI(b0:0<=base)(hs:s∈jS)(sj:(s==k' "jump")=false)(x:Seg base (p+2) a cs k0 kk)(z:Seg base (p+3+a.length) b ya (k0+kk.length) k2)(hp:p+3+a.length+b.length<=900000):
  Seg base p ((dK "getl" 0 0,base)::(jR s (p+3+a.length),base+1)::(a++(jR (k' "jump") (p+3+a.length+b.length),base)::b)) (cs++ya) k0 (kk++k2):=by
 have el:∀C,dX (a++(jR (k' "jump") (p+3+a.length+b.length),base)::b)++C=dX a++base::(dX b++C):=λC=>by rw[jN,aQ];rfl
 have la:(dX a).length=a.length:=il;have lb:(dX b).length=b.length:=il;have jt:jT s=1:=by show(bif s==k' "jump"then(0:Int)else 1)=1;rw[sj];rfl
 obtain⟨C1,e1⟩:=n4 x.ent (dX b++[base]);obtain⟨C2,e2⟩:=n4 z.ent [];have eH:dX ((dK "getl" 0 0,base)::(jR s (p+3+a.length),base+1)::(a++(jR (k' "jump") (p+3+a.length+b.length),base)::b))++[base]=[base,base+1]++(dX a++base::(dX b++[base])):=ak (λl=>base::(base+1)::l) (el [base]);have l3:p+([base,base+1]++dX a++[base]).length=p+3+a.length:=by rw[aE,aE,la];show p+(2+a.length+1)=_;lia
 refine⟨?_,rfl,λc m=>?_⟩
 ·rw[eH];refine .cons (tN (t:=0) (q:=1) (aO) (λN kinds=>by kernel_rfl) (et _) b0 λJ=>.at (A:=[base]) (ak (λl=>base::l::_) (by lia)) rfl) ?_;refine .cons (IQ hs (by lia) (by lia) (by rw[jt];lia) (.at (A:=[base,base+1]++dX a++[base]) (B:=C2) ?_ (ak _ l3.symm)) λJ=>.at (A:=[base,base+1]) (B:=C1) ?_ rfl) (.app (x.rows.mono (λj y t=>Tg.part (A:=[base,base+1]) t) λJ J=>lH.left) (.cons (IQ (.head _) hp (et _) (by show(0:Int)<=base;exact b0) (.at (A:=[base,base+1]++(dX a++base::dX b)) (B:=[]) ?_ ?_) nofun) ?_))
  ·rw[aQ,aQ,jt,show base+1-1=base by lia];exact ak (λl=>[base,base+1]++(dX a++l)) (ak (base::·) e2)
  ·rw[jt,show base+1-1=base by lia];exact ak ([base,base+1]++·) e1
  ·show _=([base,base+1]++(dX a++base::dX b))++(base-0)::[]
   rw[Int.sub_zero,aQ,aQ];rfl
  ·rw[aE,aE,la]
   show _=((p+(2+(a.length+((dX b).length+1))):Nat):Int)
   rw[lb];exact ak _ (show p+3+a.length+b.length=p+(2+(a.length+(b.length+1))) by lia)
  ·have zr:=z.rows;rw[<-l3]at zr;have:=zr.mono (T':=Tg p ([base,base+1]++(dX a++base::(dX b++[base])))) (λj y t=>by
    have:=Tg.part (B:=[]) t
    rwa [aQ,aQ]at this) λJ J=>lH.right (kk:=kk)
   rw[l3]at this
   rwa [show p+1+1+a.length+1=p+3+a.length by lia]
 ·have e0:dX ((dK "getl" 0 0,base)::(jR s (p+3+a.length),base+1)::(a++(jR (k' "jump") (p+3+a.length+b.length),base)::b))=[base,base+1]++(dX a++base::dX b):=by
   have:=el [];rw[c9,c9]at this;exact ak ([base,base+1]++·) this
  rw[e0];rcases fZ m with m|m
  ·exact mu.part (A:=[base,base+1]) (x.cats c m)
  ·have zc:=z.cats c m;rw[<-l3]at zc;have:=mu.part (B:=[]) zc
   rwa [c9,aQ,aQ]at this
def aaJ(b0:0<=base)(x:Seg base (p+2) a cs k0 kk)(hp:p+3+a.length<=900000):
  Seg base p ((dK "getl" 0 1,base)::(jR (k' "jumpunless") (p+3+a.length),base+1)::(a++[(jR (k' "jump") p,base)])) cs k0 kk:=by
 have el:∀C,dX (a++[(jR (k' "jump") p,base)])++C=dX a++base::C:=λC=>by rw[jN,aQ];rfl
 have la:(dX a).length=a.length:=il;obtain⟨C1,e1⟩:=n4 x.ent [base];have eH:dX ((dK "getl" 0 1,base)::(jR (k' "jumpunless") (p+3+a.length),base+1)::(a++[(jR (k' "jump") p,base)]))++[base]=[base,base+1]++(dX a++base::[base]):=ak (λl=>base::(base+1)::l) (el [base]);refine⟨?_,rfl,λc m=>?_⟩
 ·rw[eH];refine .cons (tN (t:=0) (q:=1) (aO) (λN kinds=>by kernel_rfl) (et _) b0 λJ=>.at (A:=[base]) (ak (λl=>base::l::_) (by lia)) rfl) ?_;refine .cons (IQ (.tail _ (.tail _ (.head _))) hp (by lia) (by show(1:Int)<=base+1;lia) (.at (A:=[base,base+1]++(dX a++[base])) (B:=[]) ?_ ?_) λJ=>.at (A:=[base,base+1]) (B:=C1) ?_ rfl) (.app (x.rows.mono (λj y t=>Tg.part (A:=[base,base+1]) t) λJ J=>id) (.one (IQ (.head _) (by lia) (et _) (by show(0:Int)<=base;exact b0) (.at (A:=[]) (B:=(base+1)::(dX a++[base,base])) ?_ rfl) nofun)))
  ·show _=([base,base+1]++(dX a++[base]))++(base+1-1)::[]
   rw[show base+1-1=base by lia,aQ,aQ];rfl
  ·rw[aE,aE,la];exact ak _ (show p+3+a.length=p+(2+(a.length+1)) by lia)
  ·show _=[base,base+1]++(base+1-1)::C1
   rw[show base+1-1=base by lia];exact ak ([base,base+1]++·) e1
  ·show _=[]++(base-0)::_
   rw[Int.sub_zero];rfl
 ·have e0:dX ((dK "getl" 0 1,base)::(jR (k' "jumpunless") (p+3+a.length),base+1)::(a++[(jR (k' "jump") p,base)]))=[base,base+1]++(dX a++[base]):=ak (λl=>base::(base+1)::l) jN;rw[e0];exact mu.part (A:=[base,base+1]) (x.cats c m)
def IS(base:Int):Ps:=[(dK "setl" 0 1,base+1),(dK "getl" 0 1,base),(j9 "caught",base+1),(dK "setl" 0 1,base+1)]
def IT(base:Int):Ps:=[(dK "setl" 0 1,base+1),(dK "getl" 0 1,base),(j9 "again",base+1)]
def bk(b0:0<=base):base+1-1+0=base/\base-0+1=base+1/\base+1-1+1=base+1:=⟨by lia,by lia,by lia⟩
def IU(b0:0<=base):eG base (Tg p (base::(dX (IS base)++[base]))) U (p+1) (IS base):=by
 have b1:base<=base+1:=Int.le_add_one (et _);have b2:(1:Int)<=base+1:=Int.le_add_of_nonneg_left b0;obtain⟨e1,e2,e3⟩:=bk b0;exact .cons (tN (t:=1) (q:=0) (aO) (λN kinds=>by kernel_rfl) b1 b2 λj=>⟨2,rfl,ak some e1.symm⟩) (.cons (tN (t:=0) (q:=1) (aO) (λN kinds=>by kernel_rfl) (et _) b0 λj=>⟨3,rfl,ak some e2.symm⟩)
  (.cons (tN (t:=1) (q:=1) (aO) (λN kinds=>by kernel_rfl) b1 b2 λj=>⟨4,rfl,ak some e3.symm⟩) (.one (tN (t:=1) (q:=0) (aO) (λN kinds=>by kernel_rfl) b1 b2 λj=>⟨5,rfl,ak some e1.symm⟩))))
def IV(b0:0<=base):eG base (Tg p (base::(dX (IT base)++[base]))) U (p+1) (IT base):=by
 have b1:base<=base+1:=Int.le_add_one (et _);have b2:(1:Int)<=base+1:=Int.le_add_of_nonneg_left b0;obtain⟨e1,e2,e3⟩:=bk b0;have en:fA (j9 "again").op o4=true:=aO;exact .cons (tN (t:=1) (q:=0) (aO) (λN kinds=>by kernel_rfl) b1 b2 λj=>⟨2,rfl,ak some e1.symm⟩) (.cons (tN (t:=0) (q:=1) (aO) (λN kinds=>by kernel_rfl) (et _) b0 λj=>⟨3,rfl,ak some e2.symm⟩)
  (.one (tN (t:=1) (q:=0) (aO) (λN kinds=>by kernel_rfl) b1 b2 λz=>by rw[en]at z;exact Qu z)))
def Vh{tl:Ps}(b0:0<=base)(hs:s=k' "rescue"\/s=k' "ensure")(x:Seg base p a cs k0 kk)(ne:1<=a.length)(hp:p+a.length+1+tl.length<=900000)(h0:(dX tl)[0]? =some (base+1))(ht:eG base (Tg (p+a.length) (base::(dX tl++[base]))) (lH k0 kk) (p+a.length+1) tl):
  Seg base p (a++(jR (k' "jump") (p+a.length+1+tl.length),base)::tl) (cs++[⟨s,p,((p+a.length:Nat):Int),((p+a.length+1:Nat):Int),base⟩]) k0 kk:=by
 have eh:dX (a++(jR (k' "jump") (p+a.length+1+tl.length),base)::tl)=dX a++base::dX tl:=jN;have el:dX (a++(jR (k' "jump") (p+a.length+1+tl.length),base)::tl)++[base]=dX a++base::(dX tl++[base]):=by rw[eh,aQ];rfl
 have la:(dX a).length=a.length:=il;obtain⟨C1,e1⟩:=n4 x.ent (dX tl++[base]);refine⟨?_,by rw[el,e1];rfl,λc m=>?_⟩
 ·rw[el];refine .app (x.rows.mono (λj y t=>Tg.part (A:=[]) (p:=p) t) λJ J=>id) (.cons (IQ (.head _) hp (et _) b0 (.at (A:=dX a++base::dX tl) (B:=[]) ?_ ?_) nofun) (ht.mono (λj y t=>?_) λJ J=>id))
  ·show _=(dX a++base::dX tl)++(base-0)::[]
   rw[Int.sub_zero,aQ];rfl
  ·rw[aE,la]
   show _=((p+(a.length+((dX tl).length+1)):Nat):Int)
   rw[il];exact ak _ (show p+a.length+1+tl.length=p+(a.length+(tl.length+1)) by lia)
  ·rw[<-la]at t;have:=Tg.shift (A:=dX a) (B:=[]) t
   rwa [c9]at this
 ·rw[eh];rcases fZ m with m|m
  ·exact mu.part (A:=[]) (p:=p) (x.cats c m)
  ·rw[cI m];refine .mk s 0 a.length (a.length+1) hs ne ?_ ?_
   ·rw[aE,la];exact aW _ _
   ·rw[fD (by rw[la];exact Nat.le_succ _),la,hU];exact h0
end
noncomputable def NB:Nat->Nat|0=>50|d+1=>2*NB d+20
def Pc(d:Nat):Prop:=∀{n:Nat}{w:Wd}{m:Ma}{base:Int}{v0 v4:Value}{Q:bA}{X:bA},w.σ=m.g [] [] [] [] []->mM m (NB d)->0<=base->m.R.length+NB d<=800000->m.K.length+NB d<=800000->w.R (.cell 0) v0->w.R (.cell 4) v4->N5 w m base (NB d) Q->
 bt du aG (n+d+9) 494 [v0,v4,int base,int d] w.h (λj h=>Q h) X
section
variable{w:Wd}{m:Ma}{base:Int}{Q:bA}{X:bA}{n d:Nat}{v0 v4:Value}{us cs ks:ah}{ext:Sg}
def Qh{w5:Wd}{k:Nat}{v:Value}(ef:w5.f=w.f.yt)(l:k<5)(r:w.R (.cell k) v):w5.R (.cell k) v:=by
 refine bu r λa q=>?_;rw[ef,n0 l];exact q
def Cj(IH:Pc d)(e:w.σ=m.g [] us cs ks ext)(h:mM m (NB d))(b0:0<=base)(hp:m.R.length+us.length+NB d<=800000)(hk:m.K.length+ks.length+NB d<=800000)(r0:w.R (.cell 0) v0)(r4:w.R (.cell 4) v4)
  (K:∀(w':Wd)(m':Ma) ps cs' ks',w.Le w'->w'.σ=(m'.pre m.R m.C m.K).g [] (us++jy ps) (cs++cs'.map Ct.t) (ks++ks'.map dM) ext->(∀c,mM m (c+NB d)->mM m' c)->ps.length<=NB d->1<=ps.length->cs'.length<=NB d->ks'.length<=NB d->Seg base (m.R.length+us.length) ps cs' (m.K.length+ks.length) (ng ks')->ks'.all D0=true->Q w'.h):
  bt du aG (n+d+9) 494 [v0,v4,int base,int d] w.h (λj h=>Q h) X:=by
 refine hide e λw5 R' C' K' eh ef lR lC lK s5 back=>?_;refine eh▸?_;refine IH (m:=m.pre R' C' K') s5 ⟨h.l,h.r,h.c,h.k⟩ b0 (show R'.length+_<=_ by rw[lR];exact hp) (show K'.length+_<=_ by rw[lK];exact hk) (Qh ef aP r0) (Qh ef aP r4) λw' m' ps cs' ks' L s r=>?_;obtain⟨w2,h2,L2,s2⟩:=back w' m' _ _ _ L s;rw[<-h2];have sg:=r.seg;rw[show(m.pre R' C' K').R.length=m.R.length+us.length from lR,show(m.pre R' C' K').K.length=m.K.length+ks.length from lK]at sg;exact K w2 m' ps cs' ks' L2 s2 (λc hc=>r.has c ⟨hc.l,hc.r,hc.c,hc.k⟩) r.lr r.ne r.lc r.lk sg r.DV
def vZ{g:Nat->Tr}(o:bV):sub g o.t=o.t:=by
 induction o with
 |tup s o ih=>exact ak (λt=>Tr.tup [.val (str s),t]) ih|_=>rfl
def pV{g:Nat->Tr}(r:Rw):sub g r.t=r.t:=by
 show Tr.lst [_,sub g r.a.t,sub g r.b.t,sub g r.c.t]=_
 rw[vZ,vZ,vZ];rfl
def sR{g:Nat->Tr}(ps:Ps):eE g (jy ps)=jy ps:=fN λr=>pV r
def n5{g:Nat->Tr}(cs:e9):eE g (cs.map Ct.t)=cs.map Ct.t:=fN λr=>rfl
def IW{g:Nat->Tr}(ks:List (Str×Int)):eE g (ks.map dM)=ks.map dM:=fN λr=>rfl
def gX(base:Int)(d y:Int)(xs:bU):bU:=some (.cell 0)::some (.cell 4)::some (.val (int base))::some (.val (int d))::some (.cell 1)::some (.val (int y))::xs
def sS(base d y:Int):bU:=gX base d y [none,none,none,none,none]
noncomputable def Ma.less(m:Ma):Ma:=⟨m.s,m.l,m.R,m.rl,m.C,m.cl,m.K,m.kl,m.lf-1,m.ml⟩
def v8(base d:Int):bU:=[some (.cell 0),some (.cell 4),some (.val (int base)),some (.val (int d)),none,none,none,none,none,none,none]
def S1(v:Int):S:=.assign (.tup (.name 4) (.tup (.name 5) .nil)) (.tup (.cons (.idx (.loc 1) (.lit (int 0))) (.cons (.call (.glob (.ref 439)) (.cons (.loc 0) (.cons (.lit (int v)) .nil))) .nil)))
def acG{k:gZ}{d:Int}:(i9 n true (aU 0 aV)).o (v8 base d) (m.g [] [] [] [] []) k=k (v8 base d) (m.less.g [] [] [] [] []):=aO
noncomputable def mv(d:Nat)(lf:Int):Nat:=bif Nat.blt 0 d&&decide (lf>0)then 12 else 7
def acH{k:gZ}{ds:bz}:[0,1,2].map (λd:Nat=>(i9 (n+1) true (aU 1 aV)).o (v8 base d) (m.g ds [] [] [] []) k)=[0,1,2].map λd:Nat=>bif Nat.blt 0 d&&decide (m.lf>0)then(i9 (n+1) true (S1 12)).o (v8 base d) (m.g ds [] [] [] []) k else(i9 (n+1) true (S1 7)).o (v8 base d) (m.g ds [] [] [] []) k:=aO
def acI{k:gZ}{d:Int}:[7,12].map (λv:Nat=>(List.range v).map λy:Nat=>(i9 (n+1) true (S1 v)).o (v8 base d) ((m.b [((v:Int),(y:Int))] [] []).g [((v:Int),(y:Int))] [] [] [] []) k)=[7,12].map λv:Nat=>(List.range v).map λy:Nat=>k (sS base d y) ((m.a [((v:Int),(y:Int))]).g [] [] [] [] []):=aO
noncomputable def IX(y:Nat):Int:=bif Nat.blt y 7 then y else-1
def acJ{k:ah->Sg->aw}{d:Int}{σ:Sg}:(List.range 12).map (λy:Nat=>(gz (dW B1 n false) (dW B1 n true) (.cons (.loc 0) (.cons (.loc 1) (.cons (.ite (.cmp (.loc 5) (.jz .Lt (.lit (int 7)) .nil)) (.loc 5) (.neg (.lit (int 1)))) .nil)))).s (sS base d y) σ k)=(List.range 12).map λy:Nat=>k [.cell 0,.cell 4,.val (int (IX y))] σ:=aO
def acK{d:Int}{σ:Sg}{xs:bU}{k:gZ}:(List.range 7).map (λy:Nat=>(i9 n true (tl 3 aV)).s (gX base d y xs) σ k)=(List.range 7).map λy:Nat=>k (gX base d y xs) σ:=aO
noncomputable def Ec(y:Nat):Nat:=Nat.min 6 (y-4)
def acL{d:Int}{σ:Sg}{xs:bU}{k:gZ}:[7,8,9,10,11].map (λy:Nat=>(i9 n true (tl (Ec y+1) aV)).s (gX base d y xs) σ k)=[7,8,9,10,11].map λy:Nat=>k (gX base d y xs) σ:=aO
def acM{d:Int}{σ:Sg}{xs:bU}{k:gZ}:[7,8,9,10,11].map (λy:Nat=>(i9 n true (hd (Ec y-3) (tl 3 aV))).s (gX base d y xs) σ k)=[7,8,9,10,11].map λy:Nat=>k (gX base d y xs) σ:=aO
end
noncomputable def uG:S->S|.D7 _ a _=>a|s=>s
def aaK(r:Rw):ah:=[.val (str r.op),r.a.t,r.b.t,r.c.t]
def ni(r:Rw):Cn:=fT (aaK r)
noncomputable def Ma.r(m:Ma)(k:Nat):Ma:=⟨m.s,m.l,m.R,m.rl+k,m.C,m.cl,m.K,m.kl,m.lf,m.ml⟩
noncomputable def Ma.ur(m:Ma)(k:Nat):Ma:=⟨m.s,m.l,m.R,m.rl-k,m.C,m.cl,m.K,m.kl,m.lf,m.ml⟩
section
variable{c N a b x k p:Nat}
def nw(h:N+b<=x)(i:a+k<=b):N+a<=x-k:=gi (bf N a k▸aa (bc i N) h)
def cw(h:c+(N+b)<=x)(i:a+k<=b):c+a+N<=x-k:=by
 rw[bf,fg a,<-bf];exact nw (N:=c+N) (bf c N b▸h) i
def Qi(h:N+b<=x)(i:a+k<=b):a+N<=x-k:=fg N a▸nw h i
def pw(h:p+N+b<=x)(i:a<=b):p+a+N<=x:=cw (k:=0) (bf p N b▸h) i
def acN(h:p+a+N<=800000)(i:k<=N):p+a+k<=900000:=aa (bc i _) (aa h aP)
def qw(h:p<=N)(i:a<=b):p+a<=N+b:=cJ h i
end
def Vi{m:Ma}{k:Nat}(h:k<=m.rl):(m.ur k).r k=m:=by
 unfold Ma.ur Ma.r;rw[eM h]
def QF(Q:bA)(fl:Fl)(h:Hp):Prop:=eZ fl (λj=>Q h) λj=>Q h
def KB(w:Wd)(m:Ma)(base:Int)(N:Nat)(Q:bA):Prop:=∀(w':Wd)(m':Ma) us cu ps cs ks ext,w.Le w'->w'.σ=(m'.pre m.R m.C m.K).g [] us cu (ks.map dM) ext->eE (wj 5 w'.σ 3) us=jy ps->eE (wj 5 w'.σ 3) cu=cs.map Ct.t->PcR m m' base N ps cs ks->Q w'.h
def P8:S:=uG (aU 4 aV)
def D2:E:=.cons (.loc 0) (.cons (.loc 1) (.cons (.loc 2) (.cons (.bin .Sub (.loc 3) (.lit (int 1))) .nil)))
section
variable{w:Wd}{m:Ma}{base:Int}{Q:bA}{X:bA}{n d N:Nat}{y:Nat}{us cs ks:ah}{ext:Sg}{σ:Sg}{xs:bU}{ρ:aS}{sp:Spec}{h:Hp}{QQ:lM}
def Ck(lw:w.σ.length<=5)(K:N5 w m base N Q):KB w m base N Q:=λw' m' us cu ps cs ks ext L s hu hc r=>K (w'.fz 5) m' ps cs ks (Wd.xF L lw) (by
 show MN 5 w'.σ=_
 have:MN 5 w'.σ=(w'.σ.take 5).map (T4 (wj 5 w'.σ 3)):=rfl;rw[this];generalize hG:wj 5 w'.σ 3=G at hu hc;rw[s];have g1:eE G (Jy m'.lf)=Jy m'.lf:=by rw[<-hG];rfl
 show [Cn.bx _ _ _,.buf _ (eE G us) _,.buf _ (eE G cu) _,.buf _ (eE G (ks.map dM)) _,.buf _ (eE G (Jy m'.lf)) _]=_
 rw[hu,hc,IW,g1];rfl) r
def v9(hy:y∈[7,8,9,10,11])(R:gR w (gX base d y xs) ρ)(K:∀w',w.Le w'->w'.σ=w.σ->Q w'.h):bH (bt du aG n) aG (tl (Ec y+1) aV) ρ w.h (QF Q) X:=by
 have E:Kq w (.ret (.val .none) w.σ) (λj h=>Q h) X:=⟨λt σ e w' v L s r=>by
  injection e with e1 e2
  exact K w' L (s.trans e2.symm),nofun⟩
 exact(cF (a9 cq n false) (a9 cq n true) true _).s ⟨w,_,ρ,_,R⟩ doneK _ _ (map_eq (acL (σ:=w.σ) (xs:=xs) (base:=base) (d:=d) (k:=doneK)) hy) E (mI (P:=⟨w,_,ρ,_,R⟩) E)
def aaL{k:ah->Sg->aw}:[0,1].map (λd:Nat=>(gz (dW B1 n false) (dW B1 n true) D2).s (gX base ((d+1:Nat):Int) y xs) σ k)=[0,1].map λd:Nat=>k [.cell 0,.cell 4,.val (int base),.val (int d)] σ:=aO
def Cm(IH:Pc d)(dd:d∈[0,1])(R:gR w (gX base ((d+1:Nat):Int) y xs) ρ)(e:w.σ=m.g [] us cs ks ext)(h:mM m (NB d))(b0:0<=base)(hp:m.R.length+us.length+NB d<=800000)(hk:m.K.length+ks.length+NB d<=800000)
  (K:∀(w':Wd)(m':Ma) ps cs' ks',w.Le w'->w'.σ=(m'.pre m.R m.C m.K).g [] (us++jy ps) (cs++cs'.map Ct.t) (ks++ks'.map dM) ext->(∀c,mM m (c+NB d)->mM m' c)->ps.length<=NB d->1<=ps.length->cs'.length<=NB d->ks'.length<=NB d->Seg base (m.R.length+us.length) ps cs' (m.K.length+ks.length) (ng ks')->ks'.all D0=true->gR w' (gX base ((d+1:Nat):Int) y xs) ρ->Q w'.h):
  fP (bt du aG (n+d+9)) aG ρ D2 w.h (λvs h1=>dD (bt du aG (n+d+9)) aG vs h1 (λj h=>Q h) X 494) X:=by
 refine qe (dv (a9 cq _ false) (a9 cq _ true) _).s R (λk=>map_eq aaL dd) λw1 vs L1 s1 rs=>.fn rfl ?_
 cases vs with|nil=>exact rs.elim|cons v0 vs=>
 cases vs with|nil=>exact rs.2.elim|cons v1 vs=>
 cases vs with|nil=>exact rs.2.2.elim|cons v2 vs=>
 cases vs with|nil=>exact rs.2.2.2.elim|cons v3 vs=>
 cases vs with|cons _ _=>exact rs.2.2.2.2.elim|nil=>
 exact rs.2.2.1.1▸rs.2.2.2.1.1▸Cj IH (s1.trans e) h b0 hp hk rs.1 rs.2.1 λw' m' ps cs' ks' L s a1 a2 a3 a4 a5 a6 a7=>K w' m' ps cs' ks' (L1.trans L) s a1 a2 a3 a4 a5 a6 a7 (bo (L1.trans L) R)
def Oa(j:Nat):Sg:=[ni (jR (k' "jumpunless") j),ni (dK "getl" 0 1),fT [.cell 6,.cell 5]]
def xs8(p:Nat):bU:=[some (.cell 5),none,some (.val (int p)),none,none]
def e8a{k:gZ}{d:Int}:(i9 (n+2) true (hd 2 P8)).s (sS base d (8:Nat)) ((m.r 2).g [] [] [] [] []) k=k (gX base d (8:Nat) (xs8 m.R.length)) (m.g [] [.cell 6,.cell 5] [] [] (Oa 0)):=aO
def e8b{k:gZ}{d:Int}{p j:Nat}:(i9 (n+2) true (tl 3 P8)).s (gX base d (8:Nat) (xs8 p)) ((m.r 1).g [] us cs ks (Oa j)) k=k (gX base d (8:Nat) (xs8 p)) (m.g [] (us++[.cell 8]) cs ks (Oa (m.R.length+(us++[Tr.cell 8]).length)++[ni (jR (k' "jump") p)])):=aO
def Vj(k:sq sp 2 P8 ρ h QQ X):bH sp aG P8 ρ h QQ X:=k
def acO(k:fP sp aG ρ D2 h (λvs h1=>dD sp aG vs h1 (λj h2=>bH sp aG (tl 3 P8) ρ h2 QQ X) X 494) X):bH sp aG (tl 2 P8) ρ h QQ X:=k
def jO{ps:Ps}:(jy ps).length=ps.length:=by unfold jy Wb;rw[au,au]
def k6{a b:Ps}:jy (a++b)=jy a++jy b:=by unfold jy Wb;rw[bM,bM]
def acP(IH:Pc d)(dd:d∈[0,1])(R:gR w (sS base ((d+1:Nat):Int) (8:Nat)) ρ)(e:w.σ=m.g [] [] [] [] [])(h:mM m (NB d+10))(b0:0<=base)(hp:m.R.length+NB d+10<=800000)(hk:m.K.length+NB d<=800000)(K:KB w m base (NB d+10) Q):
  bH (bt du aG (n+d+9)) aG P8 ρ w.h (λfl h'=>eZ fl (λρ'=>bH (bt du aG (n+d+9)) aG (tl 5 aV) ρ' h' (QF Q) X) λv=>QF Q (.ret v) h') X:=by
 have C:=a9 cq (n+d+9) false;have D:=a9 cq (n+d+9) true;have h2:2<=m.rl:=aa (aa aP (cY 10 _)) h.r;have e':w.σ=((m.ur 2).r 2).g [] [] [] [] []:=by rw[Vi h2];exact e
 refine Vj (l6 (cF C D true _).s R (λk=>(ak (λσ=>(i9 (n+d+9) true (hd 2 P8)).s (sS base ((d+1:Nat):Int) (8:Nat)) σ k) e').trans e8a) λw1 ρ1 L1 s1 R1=>acO ?_);refine Cm (m:=m.ur 2) IH dd R1 s1 ⟨aa (aW _ _) h.l,nw (a:=0) (k:=2) h.r aP,aa (aW _ _) h.c,aa (aW _ _) h.k⟩ b0 (pw (a:=2) hp aP) hk λw2 m2 ps cs ks L2 s2 a1 a2 a3 a4 a5 a6 a7 R2=>?_;have zL:mM m2 8:=a1 8 ⟨Qi (k:=0) h.l aP,Qi (k:=2) h.r aP,Qi (k:=0) h.c aP,Qi (k:=0) h.k aP⟩;have h1:1<=m2.rl:=aa aP zL.r;have er:m2.pre m.R m.C m.K=((m2.ur 1).pre m.R m.C m.K).r 1:=by
  have:=Vi h1;exact(ak (λx=>Ma.pre x m.R m.C m.K) this).symm
 have e2:=s2.trans (ak (λx=>Ma.g x [] ([Tr.cell 6,Tr.cell 5]++jy ps) ([]++cs.map Ct.t) ([]++ks.map dM) (Oa 0)) er);refine l6 (cF C D true _).s R2 (λk=>(ak (λσ=>(i9 (n+d+9) true (tl 3 P8)).s _ σ k) e2).trans e8b) λw3 ρ3 L3 s3 R3=>?_;refine v9 (y:=8) (.tail _ (.head _)) R3 λw4 L4 s4=>?_;have lj:m.R.length+(([Tr.cell 6,Tr.cell 5]++jy ps)++[Tr.cell 8]).length=m.R.length+3+ps.length:=by rw[aE,aE,jO];show m.R.length+(2+ps.length+1)=_;rw[fg 2,bf m.R.length,fg 3]
 refine K w4 (m2.ur 1) _ _ ((dK "getl" 0 1,base)::(jR (k' "jumpunless") (m.R.length+3+ps.length),base+1)::(ps++[(jR (k' "jump") m.R.length,base)])) cs ks _ (((L1.trans L2).trans L3).trans L4) (s4.trans s3) ?_ (n5 cs) ⟨λc hc=>?_,?_,cY 1 _,aa a4 (aW _ _),aa a5 (aW _ _),aaJ b0 a6 (acN (pw (a:=3) hp aP) a2),a7⟩
 ·rw[s4.trans s3,fw,fw,sR]
  show _=[(dK "getl" 0 1).t,(jR (k' "jumpunless") _).t]++jy (ps++[(jR (k' "jump") m.R.length,base)])
  rw[k6,<-aQ,<-lj];rfl
 ·have z:=a1 (c+1) ⟨cw (k:=0) hc.l aP,cw (k:=2) hc.r aP,cw (k:=0) hc.c aP,cw (k:=0) hc.k aP⟩;exact⟨de z.l,gi z.r,de z.c,de z.k⟩
 ·show(ps++[_]).length+1+1<=_
  rw[aE];exact qw (a:=3) (b:=10) a2 aP
end
def Qj:S:=uG (aU 6 aV)
noncomputable def Ma.rc(m:Ma)(k c:Nat):Ma:=⟨m.s,m.l,m.R,m.rl+k,m.C,m.cl+c,m.K,m.kl,m.lf,m.ml⟩
noncomputable def Ma.urc(m:Ma)(k c:Nat):Ma:=⟨m.s,m.l,m.R,m.rl-k,m.C,m.cl-c,m.K,m.kl,m.lf,m.ml⟩
def Vk{m:Ma}{k c:Nat}(h:k<=m.rl)(h':c<=m.cl):(m.urc k c).rc k c=m:=by
 unfold Ma.urc Ma.rc;rw[eM h,eM h']
noncomputable def wy(c:Bool):Nat:=bif c then 10 else 11
def uH(i:Nat):Str:=match i with|0=>k' "rescue"|_=>k' "ensure"
def Vl(s:Str)(p:Nat)(o:aT):bU:=[none,o,none,some (.val (str s)),some (.val (int p))]
noncomputable def uB(c:Bool)(us:ah):ah:=bif c then((us++[.cell 5])++[.cell 7,.cell 8,.cell 9])++[.cell 11]else(us++[.cell 5])++[.cell 7,.cell 8,.cell 9]
noncomputable def ctT(s:Str)(p L:Nat)(base:Int):Ct:=⟨s,p,(L:Int)-1,L,base⟩
def Qk(c:Ct):ah:=[.val (str c.sort),.val (int c.first),.val (int c.last),.val (int c.target),.val (int c.depth)]
def Co(c:Bool)(base:Int):Ps:=bif c then IS base else IT base
def acQ(c:Bool)(j:Nat)(ct:Ct):Sg:=[ni (jR (k' "jump") j),fT (Qk ct),ni (dK "setl" 0 1),ni (dK "getl" 0 1),ni (j9 (bif c then"caught"else"again")),fT [.cell 7,.cell 8,.cell 9]]++bif c then [ni (dK "setl" 0 1)]else []
section
variable{w:Wd}{m:Ma}{base:Int}{Q:bA}{X:bA}{n d N:Nat}{us cs ks:ah}{σ:Sg}{ρ:aS}{sp:Spec}{h:Hp}{QQ:lM}{c:Bool}
def acR{k:gZ}{d:Int}:[true,false].map (λc=>[0,1].map λq:Nat=>(i9 (n+2) true (hd 1 Qj)).s (sS base d (wy c)) ((m.b [(2,(q:Int))] [] []).g [(2,(q:Int))] [] [] [] []) k)=[true,false].map λc=>[0,1].map λq:Nat=>k (gX base d (wy c) (Vl (uH q) m.R.length none)) ((m.a [(2,(q:Int))]).g [] [] [] [] []):=aO
def acS{k:gZ}{d:Int}{s:Str}{p:Nat}:[true,false].map (λc=>(i9 (n+2) true (tl 2 Qj)).s (gX base d (wy c) (Vl s p none)) ((m.rc 5 1).g [] us cs ks []) k)=[true,false].map λc=>k (gX base d (wy c) (Vl s p (some (.cell 5)))) ((m.rc (bif c then 0 else 1) 0).g [] (uB c us) (cs++[.cell 6]) ks (acQ c (m.R.length+(uB c us).length) (ctT s p (m.R.length+(us++[Tr.cell 5]).length) base))):=aO
def Ob(k:sq sp 1 Qj ρ h QQ X):bH sp aG Qj ρ h QQ X:=k
def aaM(k:fP sp aG ρ D2 h (λvs h1=>dD sp aG vs h1 (λj h2=>bH sp aG (tl 2 Qj) ρ h2 QQ X) X 494) X):bH sp aG (tl 1 Qj) ρ h QQ X:=k
def Ql(c:Bool):c∈[true,false]:=by cases c<;>decide
def aaN{p N q t:Nat}(hp:p+N+10<=800000)(i:q<=N)(j:t<=4):p+q+1+t<=900000:=aa (cJ (hV (bc i p) 1) j) (aa (bc (show 1+4<=10 by decide) (p+N)) (aa hp aP))
def Qm(IH:Pc d)(dd:d∈[0,1])(R:gR w (sS base ((d+1:Nat):Int) (wy c)) ρ)(e:w.σ=m.g [] [] [] [] [])(h:mM m (NB d+10))(b0:0<=base)(hp:m.R.length+NB d+10<=800000)(hk:m.K.length+NB d<=800000)(K:KB w m base (NB d+10) Q):
  bH (bt du aG (n+d+9)) aG Qj ρ w.h (λfl h'=>eZ fl (λρ'=>bH (bt du aG (n+d+9)) aG (tl 7 aV) ρ' h' (QF Q) X) λv=>QF Q (.ret v) h') X:=by
 have C:=a9 cq (n+d+9) false;have D:=a9 cq (n+d+9) true;obtain⟨x,ds,md,yl,ln⟩:=ip (ms:=[(2,true)]) m.s.b rfl;obtain⟨q,hq,rfl⟩:∃q,q∈[0,1]/\ds=[((2:Int),((q:Nat):Int))]:=by
  obtain⟨d,hd,q⟩:=List.mem_flatMap.mp md;exact⟨d,hd,cI q⟩
 have h1:(m.u [(2,(q:Int))] [] []).b [(2,(q:Int))] [] []=m:=by
  unfold Ma.u Ma.b;have:m.l-[((2:Int),(q:Int))].length+[((2:Int),(q:Int))].length=m.l:=eM (show 1<=m.l from aa (aa aP (cY 10 _)) h.l);rw[this];rfl
 have e':w.σ=((m.u [(2,(q:Int))] [] []).b [(2,(q:Int))] [] []).g [] [] [] [] []:=by rw[h1];exact e
 have hs:uH q=k' "rescue"\/uH q=k' "ensure":=by
  rcases fY hq with rfl|hq
  ·exact .inl rfl
  ·rw[cI hq];exact .inr rfl
 refine Ob (l6 (w:=w.gh [(2,(q:Int))] e' yl) (cF C D true _).s ⟨R.1,R.2⟩ (λk=>map_eq (map_eq acR (Ql c):) hq) λw1 ρ1 L1 s1 R1=>aaM ?_);refine Cm (m:=(m.u [(2,(q:Int))] [] []).a [(2,(q:Int))]) IH dd R1 s1 ⟨nw (a:=0) (k:=1) h.l aP,aa (aW _ _) h.r,aa (aW _ _) h.c,aa (aW _ _) h.k⟩ b0 (pw (a:=0) hp aP) hk λw2 m2 ps cs ks L2 s2 a1 a2 a3 a4 a5 a6 a7 R2=>?_;have zL:mM m2 8:=a1 8 ⟨Qi (k:=1) h.l aP,Qi (k:=0) h.r aP,Qi (k:=0) h.c aP,Qi (k:=0) h.k aP⟩;have er:m2.pre m.R m.C m.K=((m2.urc 5 1).pre m.R m.C m.K).rc 5 1:=(ak (λx=>Ma.pre x m.R m.C m.K) (Vk (aa aP zL.r) (aa aP zL.c))).symm;have e2:=s2.trans (ak (λx=>Ma.g x [] ([]++jy ps) ([]++cs.map Ct.t) ([]++ks.map dM) []) er);refine l6 (cF C D true _).s R2 (λk=>(ak (λσ=>(i9 (n+d+9) true (tl 2 Qj)).s _ σ k) e2).trans (map_eq acS (Ql c):)) λw3 ρ3 L3 s3 R3=>?_;have hy:wy c∈[7,8,9,10,11]:=by cases c<;>decide
 have st:Ec (wy c)+1=7:=by cases c<;>rfl
 have T:=v9 (Q:=Q) (X:=X) (n:=n+d+9) hy R3 λw4 L4 s4=>?_
 ·rw[st]at T;exact T
 have lu:m.R.length+(jy ps++[Tr.cell 5]).length=m.R.length+ps.length+1:=by rw[aE,jO];rfl
 have lj:m.R.length+(uB c (jy ps)).length=m.R.length+ps.length+1+(Co c base).length:=by
  cases c
  ·show m.R.length+((jy ps++[Tr.cell 5])++[Tr.cell 7,.cell 8,.cell 9]).length=_+3
   rw[aE,aE,jO];rfl
  ·show m.R.length+(((jy ps++[Tr.cell 5])++[Tr.cell 7,.cell 8,.cell 9])++[Tr.cell 11]).length=_+4
   rw[aE,aE,aE,jO];rfl
 have lt:(Co c base).length<=4:=by cases c<;>exact bg rfl
 have a8:Seg base m.R.length ps cs m.K.length (ng ks):=a6;refine K w4 ((m2.urc 5 1).rc (bif c then 0 else 1) 0) _ _ (ps++(jR (k' "jump") (m.R.length+ps.length+1+(Co c base).length),base)::Co c base) (cs++[⟨uH q,m.R.length,((m.R.length+ps.length:Nat):Int),((m.R.length+ps.length+1:Nat):Int),base⟩]) ks _ (((show w.Le w1 from L1).trans L2).trans (L3.trans L4)) (s4.trans s3) ?_ ?_ ⟨λc hc=>?_,?_,?_,?_,aa a5 (aW _ _),Vh b0 hs a8 a3 (aaN hp a2 lt) (by cases c<;>rfl) (by cases c;exact IV b0;exact IU b0),a7⟩
 ·rw[s4.trans s3]
  show eE _ (uB c (jy ps))=_
  rw[show((m2.urc 5 1).pre m.R m.C m.K).R.length+(uB c ([]++jy ps)).length=_ from lj];cases c
  ·show eE _ ((jy ps++[Tr.cell 5])++[Tr.cell 7,.cell 8,.cell 9])=_
   rw[fw,fw,sR,k6,aQ];rfl
  ·show eE _ (((jy ps++[Tr.cell 5])++[Tr.cell 7,.cell 8,.cell 9])++[Tr.cell 11])=_
   rw[fw,fw,fw,sR,k6,aQ,aQ];rfl
 ·rw[s4.trans s3]
  show eE _ (cs.map Ct.t++[Tr.cell 6])=_
  rw[fw,n5,bM];refine ak _ ?_
  show [Ct.t (ctT (uH q) m.R.length (m.R.length+(jy ps++[Tr.cell 5]).length) base)]=[Ct.t _]
  rw[lu];exact ak (λx=>[Ct.t ⟨uH q,m.R.length,x,_,base⟩]) (Int.add_sub_cancel ((m.R.length+ps.length:Nat):Int) 1)
 ·have z:=a1 (c+6) ⟨cw (k:=1) hc.l aP,cw (k:=0) hc.r aP,cw (k:=0) hc.c aP,cw (k:=0) hc.k aP⟩;exact⟨aa (aW _ _) z.l,aa (nw (a:=0) (k:=5) z.r aP) (aW _ _),nw (a:=0) (k:=1) z.c aP,aa (aW _ _) z.k⟩
 ·rw[aE];exact qw (b:=10) a2 (aa (Nat.succ_le_succ lt) aP)
 ·rw[aE];exact aa a3 (aW _ _)
 ·rw[aE];exact qw (a:=1) (b:=10) a4 aP
end
def P7:S:=uG (aU 3 aV)
def Qn(i:Nat):Str:=match i with|0=>k' "jumpif"|_=>k' "jumpunless"
noncomputable def Oc(a o z:aT):bU:=[a,o,none,none,z]
def wa(s:Str)(j:Nat):Sg:=[ni (dK "getl" 0 0),ni (jR s j)]
def S5:S:=.assign (.tup (.name 7) (.tup (.idx (.loc 6) (.lit (int 1))) .nil)) (.tup (.cons (.loc 10) (.cons (.call (.glob (.builtin "len")) (.cons (.loc 4) .nil)) .nil)))
section
variable{w:Wd}{m:Ma}{base:Int}{Q:bA}{X:bA}{n d N j:Nat}{us cs ks:ah}{σ:Sg}{ρ:aS}{sp:Spec}{h:Hp}{QQ:lM}{s:Str}{x:Tr}{ext:Sg}
def e7a{k:gZ}{d:Int}:[0,1].map (λq:Nat=>(i9 (n+2) true (hd 3 P7)).s (sS base d (7:Nat)) (((m.r 2).b [(2,(q:Int))] [] []).g [(2,(q:Int))] [] [] [] []) k)=[0,1].map λq:Nat=>k (gX base d (7:Nat) (Oc (some (.cell 6)) none none)) ((m.a [(2,(q:Int))]).g [] [.cell 5,.cell 6] [] [] (wa (Qn q) 0)):=aO
def e7b{k:gZ}{d:Int}:(i9 (n+2) true (aU 4 P7)).o (gX base d (7:Nat) (Oc (some (.cell 6)) none none)) ((m.r 1).g [] us cs ks (wa s j)) k=k (gX base d (7:Nat) (Oc (some (.cell 6)) none none)) (m.g [] (us++[.cell 7]) cs ks (wa s j++[ni (jR (k' "jump") 0)])):=aO
def e7c{k:gZ}{d:Int}:(i9 (n+2) true (aU 5 P7)).o (gX base d (7:Nat) (Oc (some (.cell 6)) none none)) (m.g [] us cs ks ext) k=(fq (m.g [] us cs ks ext) (.cell 1) (.val (int (-1)))).bind λx=>(i9 (n+2) true S5).o (gX base d (7:Nat) (Oc (some (.cell 6)) none (some x))) (m.g [] us cs ks ext) λρ σ=>k (ρ.set 10 none) σ:=aO
def e7d{k:gZ}{d:Int}:(i9 (n+2) true S5).o (gX base d (7:Nat) (Oc (some (.cell 6)) none (some (.cell 7)))) (m.g [] us cs ks (wa s j++[ni (jR (k' "jump") 0)])) (λρ σ=>k (ρ.set 10 none) σ)=k (gX base d (7:Nat) (Oc (some (.cell 6)) (some (.cell 7)) none)) (m.g [] us cs ks (wa s (m.R.length+us.length)++[ni (jR (k' "jump") 0)])):=aO
def e7e{k:gZ}{d:Int}:(i9 (n+2) true (tl 7 P7)).s (gX base d (7:Nat) (Oc (some (.cell 6)) (some (.cell 7)) none)) (m.g [] us cs ks (wa s j++[ni (jR (k' "jump") 0)])) k=k (gX base d (7:Nat) (Oc (some (.cell 6)) (some (.cell 7)) none)) (m.g [] us cs ks (wa s j++[ni (jR (k' "jump") (m.R.length+us.length))])):=aO
def Vm:fq (m.g [] (us++[x]) cs ks ext) (.cell 1) (.val (int (-1)))=some x:=List.getLast?_concat
def Vn(k:sq sp 3 P7 ρ h QQ X):bH sp aG P7 ρ h QQ X:=k
def acT(k:fP sp aG ρ D2 h (λvs h1=>dD sp aG vs h1 (λj h2=>bH sp aG (tl 4 P7) ρ h2 QQ X) X 494) X):bH sp aG (tl 3 P7) ρ h QQ X:=k
def aaO(k:wpS sp aG (aU 4 P7) ρ h (λfl h1=>eZ fl (λρ1=>wpS sp aG (aU 5 P7) ρ1 h1 (λfl h1=>eZ fl (λρ1=>fP sp aG ρ1 D2 h1 (λvs h1=>dD sp aG vs h1 (λj h2=>bH sp aG (tl 7 P7) ρ1 h2 QQ X) X 494) X) λv=>QQ (.ret v) h1) X) λv=>QQ (.ret v) h1) X):bH sp aG (tl 4 P7) ρ h QQ X:=k
section
variable{c N a b x k p q r:Nat}
def dw(h:2*N+b<=x)(i:a+k<=b):N+a+N<=x-k:=by
 rw[Nat.add_right_comm,<-Nat.two_mul];exact nw h i
def dw0(h:2*N+b<=x)(i:k<=b):N<=x-k:=aa (cY N _) (dw (a:=0) h ((cX k).symm▸i))
def ew(h:c+(2*N+b)<=x)(i:a+k<=b):c+N+a+N<=x-k:=by
 rw[Nat.add_right_comm c,bf,<-Nat.two_mul];exact cw h i
def acU(h:p+2*N+b<=800000)(i:a<=b):p+a+N<=800000:=aa (bc (Nat.le_mul_of_pos_left N aP) _) (pw h i)
def aaP(h:p+2*N<=800000)(i:q<=N):p+q+N<=800000:=aa (hV (bc i p) N) (by rw[bf,<-Nat.two_mul];exact h)
def Qo(h:p+2*N+10<=800000):p+3+N+N<=800000:=by
 rw[bf,<-Nat.two_mul];exact pw h aP
def aaQ(h:p+2*N+10<=800000)(i:q<=N):p+(3+q)+N<=800000:=by
 rw[<-bf];exact aa (hV (bc i _) N) (Qo h)
def aaR(h:p+2*N+10<=800000)(i:q<=N)(j:r<=N):p+3+q+r<=900000:=aa (cJ (bc i _) j) (aa (Qo h) aP)
def Vo(i:p<=N)(j:q<=N)(l:a<=b):p+q+a<=2*N+b:=Nat.two_mul N▸cJ (cJ i j) l
end
def acV(IH:Pc d)(dd:d∈[0,1])(R:gR w (sS base ((d+1:Nat):Int) (7:Nat)) ρ)(e:w.σ=m.g [] [] [] [] [])(h:mM m (2*NB d+10))(b0:0<=base)(hp:m.R.length+2*NB d+10<=800000)(hk:m.K.length+2*NB d<=800000)(K:KB w m base (2*NB d+10) Q):
  bH (bt du aG (n+d+9)) aG P7 ρ w.h (λfl h'=>eZ fl (λρ'=>bH (bt du aG (n+d+9)) aG (tl 4 aV) ρ' h' (QF Q) X) λv=>QF Q (.ret v) h') X:=by
 have C:=a9 cq (n+d+9) false;have D:=a9 cq (n+d+9) true;obtain⟨x,ds,md,yl,ln⟩:=ip (ms:=[(2,true)]) m.s.b rfl;obtain⟨q,hq,rfl⟩:∃q,q∈[0,1]/\ds=[((2:Int),((q:Nat):Int))]:=by
  obtain⟨d,hd,q⟩:=List.mem_flatMap.mp md;exact⟨d,hd,cI q⟩
 have⟨hl,hr,hc,Wc⟩:=h;have h1:(((m.ur 2).u [(2,(q:Int))] [] []).r 2).b [(2,(q:Int))] [] []=m:=by
  show(⟨m.s,m.l-1+1,m.R,m.rl-2+2,m.C,m.cl,m.K,m.kl,m.lf,m.ml⟩:Ma)=m
  rw[eM (show 1<=m.l from aa (aa aP (cY 10 _)) hl),eM (show 2<=m.rl from aa (aa aP (cY 10 _)) hr)]
 have e':w.σ=((((m.ur 2).u [(2,(q:Int))] [] []).r 2).b [(2,(q:Int))] [] []).g [] [] [] [] []:=by rw[h1];exact e
 have hs:Qn q∈jS/\(Qn q==k' "jump")=false:=by
  rcases fY hq with rfl|hq
  ·exact⟨.tail _ (.head _),aO⟩
  ·rw[cI hq];exact⟨.tail _ (.tail _ (.head _)),aO⟩
 refine Vn (l6 (w:=w.gh [(2,(q:Int))] e' yl) (cF C D true _).s ⟨R.1,R.2⟩ (λk=>map_eq e7a hq) λw1 ρ1 L1 s1 R1=>acT ?_);refine Cm (m:=((m.ur 2).u [(2,(q:Int))] [] []).a [(2,(q:Int))]) IH dd R1 s1 ⟨dw0 (k:=1) hl aP,dw0 (k:=2) hr aP,dw0 (k:=0) hc aP,dw0 (k:=0) Wc aP⟩ b0 (acU (a:=2) hp aP) (aaP (q:=0) hk (bO _)) λw2 m2 ps cs ks L2 s2 a1 a2 a3 a4 a5 a6 a7 R2=>aaO ?_;have a6:Seg base (m.R.length+2) ps cs m.K.length (ng ks):=a6;have zL:mM m2 (NB d+7):=a1 (NB d+7) ⟨dw (k:=1) hl aP,dw (k:=2) hr aP,dw (k:=0) hc aP,dw (k:=0) Wc aP⟩;have er:m2.pre m.R m.C m.K=((m2.ur 1).pre m.R m.C m.K).r 1:=(ak (λx=>Ma.pre x m.R m.C m.K) (Vi (show 1<=m2.rl from aa (aa aP (cY 7 _)) zL.r))).symm;have e2:=s2.trans (ak (λx=>Ma.g x [] ([Tr.cell 5,Tr.cell 6]++jy ps) ([]++cs.map Ct.t) ([]++ks.map dM) (wa (Qn q) 0)) er);refine nh (cF C D true _).o R2 (λk=>(ak (λσ=>(i9 (n+d+9) true (aU 4 P7)).o _ σ k) e2).trans e7b) λw3 ρ3 L3 s3 R3=>?_;refine nh (cF C D true _).o R3 (λk=>(ak (λσ=>(i9 (n+d+9) true (aU 5 P7)).o _ σ k) s3).trans (e7c.trans ((ak (λo=>Option.bind o _) Vm).trans e7d))) λw4 ρ4 L4 s4 R4=>?_;have l7:(([Tr.cell 5,Tr.cell 6]++jy ps)++[Tr.cell 7]).length=3+ps.length:=by rw[aE,aE,jO];exact Nat.add_right_comm 2 _ 1
 refine Cm (m:=(m2.ur 1).pre m.R m.C m.K) IH dd R4 s4 ⟨aa (aW _ 7) zL.l,nw (a:=0) (k:=1) zL.r aP,aa (aW _ 7) zL.c,aa (aW _ 7) zL.k⟩ b0 ?_ ?_ λw5 m5 AL ya uh L5 s5 b1 b2 b3 b4 b5 b6 b7 R5=>?_
 ·rw[l7];exact aaQ hp a2
 ·rw[List.nil_append,au];exact aaP hk a5
 have b6:Seg base (m.R.length+3+ps.length) AL ya (m.K.length+(ng ks).length) (ng uh):=by
  have:=b6;rw[l7,List.nil_append,au]at this;unfold ng at*;rw[au,bf m.R.length];exact this
 refine l6 (cF C D true _).s R5 (λk=>(ak (λσ=>(i9 (n+d+9) true (tl 7 P7)).s _ σ k) s5).trans e7e) λw6 ρ6 L6 s6 R6=>?_;refine v9 (y:=7) (.head _) R6 λw7 L7 s7=>?_;have eu:((([Tr.cell 5,Tr.cell 6]++jy ps)++[Tr.cell 7])++jy AL).length=3+ps.length+AL.length:=by rw[aE,l7,jO]
 have lj1:m.R.length+(([Tr.cell 5,Tr.cell 6]++jy ps)++[Tr.cell 7]).length=m.R.length+3+ps.length:=by rw[l7,bf]
 have lj2:m.R.length+((([Tr.cell 5,Tr.cell 6]++jy ps)++[Tr.cell 7])++jy AL).length=m.R.length+3+ps.length+AL.length:=by rw[eu,<-bf,<-bf]
 have s8:w7.σ=(m5.pre m.R m.C m.K).g [] ((([Tr.cell 5,Tr.cell 6]++jy ps)++[Tr.cell 7])++jy AL) (cs.map Ct.t++ya.map Ct.t) ((ks++uh).map dM) (wa (Qn q) (m.R.length+3+ps.length)++[ni (jR (k' "jump") (m.R.length+3+ps.length+AL.length))]):=by rw[<-lj2,<-lj1,bM];exact s7.trans s6
 refine K w7 m5 _ _ ((dK "getl" 0 0,base)::(jR (Qn q) (m.R.length+3+ps.length),base+1)::(ps++(jR (k' "jump") (m.R.length+3+ps.length+AL.length),base)::AL)) (cs++ya) (ks++uh) _ (((show w.Le w1 from L1).trans L2).trans ((L3.trans L4).trans ((L5.trans L6).trans L7))) s8 ?_ ?_ ⟨λc hc=>?_,?_,cY 1 _,?_,?_,?_,?_⟩
 ·rw[s8,fw,fw,fw,sR,sR,aQ,aQ]
  show _=[(dK "getl" 0 0).t,(jR (Qn q) _).t]++jy (ps++(jR (k' "jump") (m.R.length+3+ps.length+AL.length),base)::AL)
  rw[k6];rfl
 ·show eE _ (cs.map Ct.t++ya.map Ct.t)=_
  rw[fw,n5,n5,bM]
 ·have z:=b1 c (by
   have z:=a1 (c+NB d+1) ⟨ew (k:=1) hc.l aP,ew (k:=2) hc.r aP,ew (k:=0) hc.c aP,ew (k:=0) hc.k aP⟩;exact⟨de z.l,gi z.r,de z.c,de z.k⟩)
  exact z
 ·show(ps++_::AL).length+1+1<=_
  rw[aE];exact Vo (a:=3) a2 b2 aP
 ·rw[aE];exact Vo (a:=0) a4 b4 (bO _)
 ·rw[aE];exact Vo (a:=0) a5 b5 (bO _)
 ·have:=aaI (s:=Qn q) b0 hs.1 hs.2 a6 b6 (aaR hp a2 b2)
  rwa [show ng (ks++uh)=ng ks++ng uh from bM]
 ·rw[List.all_append,a7,b7];rfl
end
noncomputable def jP:S->E|.D7 t _ _=>t|_=>.nil
def acW:E:=.cons (.loc 0) (.cons (.loc 1) (.cons (.ite (.cmp (.loc 5) (.jz .Lt (.lit (int 7)) .nil)) (.loc 5) (.neg (.lit (int 1)))) .nil))
def Cq(n:Nat)(base d:Int)(m:Ma)(ds:bz):aw:=(i9 (n+6) false (tl 3 aV)).s (sS base d (9:Nat)) ((m.b ds (vW 3 (iE ds)) (AJ 3 (iE ds))).g ds [] [] [] []) doneK
section
variable{w:Wd}{m m2 m':Ma}{base:Int}{Q:bA}{X:bA}{n d N N2 y:Nat}{σ:Sg}{ρ:aS}{sp:Spec}{h:Hp}{QQ:lM}{xs:bU}{ps:Ps}{cs:e9}{ks:List (Str×Int)}
def IY{d:Int}{x:Nat->Int}:(jq (IF 3) x).map (Cq n base d m)=(jq (IF 3) x).map λds=>Cc m ds (vW 3 (iE ds)) (AJ 3 (iE ds)):=aO
def acX{d:Int}{k:Ko}:[7,8,9,10,11].map (λy:Nat=>(gz (dW B1 n false) (dW B1 n true) (jP (aU (Ec y) aV))).e (gX base d y xs) σ k)=[7,8,9,10,11].map λy:Nat=>k (.val (.bool true)) σ:=aO
def Od(hy:y∈[7,8,9,10,11])(k:bH sp aG (hd (Ec y-3) (tl 3 aV)) ρ h (λfl h'=>eZ fl (λρ'=>eB sp aG ρ' (jP (aU (Ec y) aV)) h' (λv h1=>dh v λb'=>mO b' (bH sp aG (uG (aU (Ec y) aV)) ρ' h1 (λfl h'=>eZ fl (λρ'=>bH sp aG (tl (Ec y+1) aV) ρ' h' QQ X) λv=>QQ (.ret v) h') X)
  (bH sp aG .nil ρ' h1 (λfl h'=>eZ fl (λρ'=>bH sp aG (tl (Ec y+1) aV) ρ' h' QQ X) λv=>QQ (.ret v) h') X)) X) λv=>QQ (.ret v) h') X):bH sp aG (tl 3 aV) ρ h QQ X:=by
 simp only[eV,dS,or_false]at hy;rcases hy with rfl|rfl|rfl|rfl|rfl
 ·exact k
 ·exact k
 ·exact k
 ·exact k
 ·exact k
def enter(hy:y∈[7,8,9,10,11])(R:gR w (gX base d y xs) ρ)(K:∀(w':Wd) ρ',w.Le w'->w'.σ=w.σ->gR w' (gX base d y xs) ρ'->bH (bt du aG n) aG (uG (aU (Ec y) aV)) ρ' w'.h (λfl h'=>eZ fl (λρ'=>bH (bt du aG n) aG (tl (Ec y+1) aV) ρ' h' QQ X) λv=>QQ (.ret v) h') X):
  bH (bt du aG n) aG (tl 3 aV) ρ w.h QQ X:=by
 have C:=a9 cq n false;have D:=a9 cq n true;refine Od hy (l6 (cF C D true _).s R (λk=>map_eq acM hy) λw1 ρ1 L1 s1 R1=>mY (dv C D _).e R1 (λk=>map_eq acX hy) λw2 v L2 s2 rv=>?_);rw[rv.1];exact K w2 ρ1 (L1.trans L2) (s2.trans s1) (bo L2 R1)
def PcR.wide(r:PcR m2 m' base N2 ps cs ks)(hs:∀c,mM m (c+N)->mM m2 (c+N2))(le:N2<=N)(eR:m2.R=m.R)(eK:m2.K=m.K):PcR m m' base N ps cs ks:=
 ⟨λc h=>r.has c (hs c h),aa r.lr le,r.ne,aa r.lc le,aa r.lk le,eR▸eK▸r.seg,r.DV⟩
def Vp(k:wpS sp aG (aU 0 aV) ρ h (λfl h1=>eZ fl (λρ1=>wpS sp aG (aU 1 aV) ρ1 h1 (λfl h2=>eZ fl (λρ2=>fP sp aG ρ2 acW h2 (λvs h3=>dD sp aG vs h3 (λj h4=>bH sp aG (tl 3 aV) ρ2 h4 QQ X) X 487) X) λv=>QQ (.ret v) h2) X) λv=>QQ (.ret v) h1) X):bH sp aG aV ρ h QQ X:=k
def acY(h:y<7):y∈[0,1,2]\/(y:Int)∈[3,4,5,6]:=by
 rcases y with _|_|_|_|_|_|_|y
 ·exact .inl aP
 ·exact .inl aP
 ·exact .inl aP
 ·exact .inr aP
 ·exact .inr aP
 ·exact .inr aP
 ·exact .inr aP
 ·exact absurd h (by lia)
def aaS(h:y<12)(h7:¬y<7):y∈[7,8,9,10,11]:=(by decide:∀y<12,¬y<7->y∈[7,8,9,10,11]) y h h7
def cw'{c N a b x k:Nat}(h:c+(N+b)<=x)(i:a+k<=b):c+(N+a)<=x-k:=by
 rw[<-bf];exact nw (by rw[bf];exact h) i
def Qp(d:Nat):50<=NB d:=by
 induction d with
 |zero=>exact aH _|succ d ih=>exact aa ih (aa (Nat.le_mul_of_pos_left _ aP) (aW _ 20))
def Vq(I:Pc d)(dd:d∈[0,1])(hy:y∈[7,8,9,10,11])(e:w.σ=m.g [] [] [] [] [])(hm:mM m (2*NB d+15))(b0:0<=base)(hp:m.R.length+(2*NB d+20)<=800000)(hk:m.K.length+(2*NB d+20)<=800000)(R:gR w (sS base ((d+1:Nat):Int) y) ρ)(K:N5 w m base (2*NB d+15) Q):bH (bt du aG (n+d+9)) aG (tl 3 aV) ρ w.h (QF Q) X:=by
 have n50:=Qp d;have q7:2*NB d+10<=2*NB d+15:=bc aP _;have N1:NB d<=2*NB d:=Nat.le_mul_of_pos_left _ aP;have q8:NB d+10<=2*NB d+15:=cJ N1 aP;have q40:40<=2*NB d+15:=aa (aa aP n50) (aa N1 (aW _ 15));have p7:m.R.length+2*NB d+10<=800000:=by rw[bf];exact aa (bc (bc aP _) _) hp
 have k7:m.K.length+2*NB d<=800000:=aa (bc (aW _ 20) _) hk;have p8:m.R.length+NB d+10<=800000:=by rw[bf];exact aa (bc (cJ N1 aP) _) hp
 have k8:m.K.length+NB d<=800000:=aa (bc N1 _) k7;have le:∀{N c:Nat},N<=2*NB d+15->mM m (c+(2*NB d+15))->mM m (c+N):=λl h=>⟨aa (bc l _) h.l,aa (bc l _) h.r,aa (bc l _) h.c,aa (bc l _) h.k⟩
 have lh:∀{N:Nat},N<=2*NB d+15->mM m N:=λl=>⟨aa l hm.l,aa l hm.r,aa l hm.c,aa l hm.k⟩
 have K2:∀{w1:Wd}{N:Nat},w.Le w1->N<=2*NB d+15->N5 w1 m base N Q:=λL l w' m' ps cs ks L' s r=>K w' m' ps cs ks (L.trans L') s (r.wide (λc=>le l) l rfl rfl);have lw:∀{w1:Wd},w1.σ=w.σ->w1.σ.length<=5:=λs=>by rw[s,e];exact aH 5
 simp only[eV,dS,or_false]at hy;rcases hy with rfl|rfl|rfl|rfl|rfl
 ·exact enter (y:=7) aP R λw1 ρ1 L1 s1 R1=>acV I dd R1 (s1.trans e) (lh q7) b0 p7 k7 (Ck (lw s1) (K2 L1 q7))
 ·exact enter (y:=8) aP R λw1 ρ1 L1 s1 R1=>acP I dd R1 (s1.trans e) (lh q8) b0 p8 k8 (Ck (lw s1) (K2 L1 q8))
 ·obtain⟨x,ds,md,yl,ln⟩:=ip (ms:=IF 3) m.s.b rfl;have l1:ds.length<=40:=by rw[ln];exact bg rfl
  have c:=bQ (bQ (Qf (x:=x)) 3 aP) ds md;have f:=λp k N kinds=>map_eq (map_eq (Qg (x:=x) (p:=p) (k:=k) (N:=N) (kinds:=kinds)) (show 3∈[0,1,2,3] by decide):) md;have c3:=aA (aA (aA c).2).2;have run:=map_eq (IY (n:=n+d+3) (base:=base) (d:=((d+1:Nat):Int)) (m:=m.u ds (vW 3 (iE ds)) (AJ 3 (iE ds))) (x:=x)) md;unfold Cq at run;have h40:mM m 40:=lh q40;rw[ub h40 l1 (bg c3.1) (aa (bg (aA c3.2).1) aP)]at run;have E:=AK (X:=X) (w:=w.gh ds e yl) (K2 (w1:=w.gh ds e yl) (.refl w) q40) h40 b0 (aa (aW _ _) (aa hp aP)) (aa (aW _ _) (aa hk aP)) l1 c f rfl;exact(cF (a9 cq (n+d+9) false) (a9 cq (n+d+9) true) false (tl 3 aV)).s ⟨w.gh ds e yl,_,ρ,_,⟨R.1,R.2⟩⟩ doneK _ _ run E (mI (P:=⟨w.gh ds e yl,_,ρ,_,⟨R.1,R.2⟩⟩) E)
 ·exact enter (y:=10) aP R λw1 ρ1 L1 s1 R1=>Qm (c:=true) I dd R1 (s1.trans e) (lh q8) b0 p8 k8 (Ck (lw s1) (K2 L1 q8))
 ·exact enter (y:=11) aP R λw1 ρ1 L1 s1 R1=>Qm (c:=false) I dd R1 (s1.trans e) (lh q8) b0 p8 k8 (Ck (lw s1) (K2 L1 q8))
def D3(hy:y<7)(e:w.σ=m.g [] [] [] [] [])(h:mM m 41)(b0:0<=base)(hp:m.R.length<=800000)(hk:m.K.length<=800000){v0 v4:Value}(r0:w.R (.cell 0) v0)(r4:w.R (.cell 4) v4)(K:N5 w m base 41 Q):bt du aG (n+8) 487 [v0,v4,int y] w.h (λj h=>Q h) X:=by
 rcases acY hy with h3|h3
 ·exact Vb (n:=n+2) y h3 e ⟨de h.l,de h.r,de h.c,de h.k⟩ b0 (aa hp aP) (aa hk aP) r0 r4 λw' m' ps cs ks L s r=>K w' m' ps cs ks L s (r.wide (λc h=>⟨de h.l,de h.r,de h.c,de h.k⟩) aP rfl rfl)
 ·exact N9 h3 e h b0 (aa hp aP) (aa hk aP) r0 r4 K
def n6(dd:d∈[0,1,2])(IH:∀d',d=d'+1->Pc d'/\d'∈[0,1]):Pc d:=by
 intro n w m base v0 v4 Q X e h b0 hp hk r0 r4 K;have C:=a9 cq (n+d+8) false;have D:=a9 cq (n+d+8) true;have n50:=Qp d;have n42:42<=NB d:=aa aP n50;have Vr:=de n42;have R0:gR w (v8 base d) (args mA [v0,v4,int base,int d]):=kX (F:=mA) (ts:=[.cell 0,.cell 4,.val (int base),.val (int d)]) rfl ⟨r0,r4,⟨rfl,rfl⟩,⟨rfl,rfl⟩,trivial⟩;refine⟨mA,rfl,aH 4,aH 4,Vp (nh (cF C D true _).o R0 (λk=>(ak (λσ=>(i9 (n+d+8) true (aU 0 aV)).o _ σ k) e).trans acG) λw1 ρ1 L1 s1 R1=>?_)⟩;have hv:mv d m.less.lf∈[7,12]/\∀{k:gZ}{ds:bz},(i9 (n+d+8) true (aU 1 aV)).o (v8 base d) (m.less.g ds [] [] [] []) k=(i9 (n+d+8) true (S1 (mv d m.less.lf:Nat))).o (v8 base d) (m.less.g ds [] [] [] []) k:=by
  refine⟨?_,λ{k ds}=>(map_eq (acH (n:=n+d+7)) dd).trans ?_⟩
  ·unfold mv;cases Nat.blt 0 d&&decide (m.less.lf>0)<;>decide
  ·unfold mv;cases Nat.blt 0 d&&decide (m.less.lf>0)<;>rfl
 have hv1:7<=mv d m.less.lf->¬d=0\/mv d m.less.lf=7:=λj=>by
  cases d with
  |zero=>exact .inr rfl|succ d=>exact .inl nofun
 obtain⟨x,ds,md,yl,ln⟩:=ip (ms:=[(mv d m.less.lf,true)]) m.less.s.b (by
  have:=hv.1;revert this;generalize mv d m.less.lf=v;intro hv;simp only[eV,dS,or_false]at hv;rcases hv with rfl|rfl<;>rfl)
 obtain⟨y,hy,rfl⟩:∃y,y∈List.range (mv d m.less.lf)/\ds=[(((mv d m.less.lf:Nat):Int),((y:Nat):Int))]:=by
  obtain⟨d,hd,q⟩:=List.mem_flatMap.mp md;exact⟨d,hd,cI q⟩
 generalize mv d m.less.lf=v at*;obtain⟨hl,hr,hc,Wc⟩:=h;have h1:(m.less.u [((v:Int),(y:Int))] [] []).b [((v:Int),(y:Int))] [] []=m.less:=by
  show(⟨m.s,m.l-1+1,m.R,m.rl,m.C,m.cl,m.K,m.kl,m.lf-1,m.ml⟩:Ma)=_
  rw[eM (aa (aa aP n50) hl)];rfl
 have a1:=λk=>map_eq (map_eq (acI (n:=n+d+7) (m:=m.less.u [((v:Int),(y:Int))] [] []) (base:=base) (d:=d) (k:=k)) hv.1:) hy;rw[h1]at a1;refine nh (w:=w1.gh _ s1 yl) (cF C D true _).o ⟨R1.1,R1.2⟩ (λk=>hv.2.trans (a1 k)) λw2 ρ2 L2 s2 R2=>?_;have L12:w.Le w2:=L1.trans (show w1.Le w2 from L2);have ylt:y<v:=pY hy;have y12:y<12:=by
  have:=hv.1;simp only[eV,dS,or_false]at this;exact dI ylt (this.elim (λz=>z▸bg rfl) λz=>z▸aH 12)
 refine qe (dv C D _).s R2 (λk=>map_eq acJ (List.mem_range.mpr y12)) λw3 vs L3 s3 rs=>.fn rfl ?_
 cases vs with|nil=>exact rs.elim|cons u0 vs=>
 cases vs with|nil=>exact rs.2.elim|cons u1 vs=>
 cases vs with|nil=>exact rs.2.2.elim|cons u2 vs=>
 cases vs with|cons _ _=>exact rs.2.2.2.elim|nil=>
 rw[rs.2.2.1.1];have R3:=bo L3 R2;have L13:=L12.trans L3;have s3:=s3.trans s2;by_cases y7:y<7
 ·rw[show IX y=y by unfold IX;rw[show Nat.blt y 7=true from Nat.ble_eq_true_of_le y7];rfl];refine D3 (n:=n+d) (Q:=λh4=>bH (bt du aG (n+d+8)) aG (tl 3 aV) ρ2 h4 (QF Q) X) y7 s3 ⟨gi (aa n42 hl),aa Vr hr,aa Vr hc,aa Vr Wc⟩ b0 (aa (aW _ _) hp) (aa (aW _ _) hk) rs.1 rs.2.1 λw' m' ps cs ks L s r=>?_;have E:Kq w' (.ret (.val .none) w'.σ) (λj h=>Q h) X:=⟨λt σ e PV v L' s' j=>by
   injection e with e1 e2
   exact K PV m' ps cs ks ((L13.trans L).trans L') ((s'.trans e2.symm).trans s) (r.wide (m:=m) (λc hc=>⟨gi (aa (bc n42 c) hc.l),aa (bc Vr c) hc.r,aa (bc Vr c) hc.c,aa (bc Vr c) hc.k⟩) Vr rfl rfl),nofun⟩
  have R4:=bo L R3;exact(cF C D true _).s ⟨w',_,ρ2,_,R4⟩ doneK _ _ (map_eq (acK (σ:=w'.σ) (k:=doneK)) (List.mem_range.mpr y7)) E (mI (P:=⟨w',_,ρ2,_,R4⟩) E)
 ·rw[show IX y=-1 by unfold IX;rw[show Nat.blt y 7=false from Bool.eq_false_iff.mpr λz=>y7 (bg z)];rfl];refine Ve (n:=n+d) (Q:=λh4=>bH (bt du aG (n+d+8)) aG (tl 3 aV) ρ2 h4 (QF Q) X) s3 rs.1 rs.2.1 λw4 L4 s4=>?_;obtain⟨d',rfl⟩:∃d',d=d'+1:=⟨d-1,(hv1 (aa (Nat.le_of_not_lt y7) (cM ylt))).elim (λz=>(eM (Nat.pos_of_ne_zero z)).symm) λz=>(y7 (z▸ylt)).elim⟩
  obtain⟨I,d2⟩:=IH d' rfl;have en:NB (d'+1)=2*NB d'+20:=rfl;rw[en]at hl hr hc Wc hp hk K;exact Vq (n:=n) I d2 (aaS y12 y7) s4 ⟨nw (k:=1) hl aP,nw (k:=0) hr aP,nw (k:=0) hc aP,nw (k:=0) Wc aP⟩ b0 hp hk (bo L4 R3) λw' m' ps cs ks L s r=>K w' m' ps cs ks ((L13.trans L4).trans L) s (r.wide (m:=m) (λc hc=>⟨cw' (k:=1) hc.l aP,cw' (k:=0) hc.r aP,cw' (k:=0) hc.c aP,cw' (k:=0) hc.k aP⟩) (bc aP _) rfl rfl)
def Cr:Pc 0:=n6 aP λd' e=>(Nat.succ_ne_zero d' e.symm).elim
def Oe:Pc 1:=n6 aP λd' e=>by cases e;exact⟨Cr,by decide⟩
def Of:Pc 2:=n6 aP λd' e=>by cases e;exact⟨Oe,by decide⟩
end
noncomputable def pcN(p:Bool):Option ai:=bif p then some []else none
def dJ(p:Bool)(s:Bx)(ds:bz)(l:Nat)(us cs ks:ah)(rl cl kl:Nat)(lf:Int)(ml:Nat)(ext:Sg):Sg:=
 .bx s ds l::.buf (pcN p) us rl::.buf (pcN p) cs cl::.buf (pcN p) ks kl::.buf none (Jy lf) ml::ext
def We:aF:=[k' "method",k' "program",k' "block",k' "class"]
def yc(q:Nat):Str:=(We[q]?).getD (k' "")
def o7(kd:Str)(b:Nat)(x3 x4:aT):bU:=[some (.cell 0),some (.val (str kd)),some (.val (int b)),x3,x4,none]
def rows0(b:Nat):ah:=List.replicate b (gA "push" 7).t
def e2E:E:=.ite (.idx (.loc 0) (.lit (int 3))) (.lit (int 1)) (.bin .Add (.lit (int 1)) (.call (.glob (.ref 439)) (.cons (.loc 0) (.cons (.lit (int 3)) .nil))))
def e2F:E:=.bin .Add (.lit (int 1)) (.call (.glob (.ref 439)) (.cons (.loc 0) (.cons (.lit (int 3)) .nil)))
def D4:E:=.cons (.loc 0) (.cons (.loc 3) (.cons (.loc 2) (.cons (.ite (.idx (.loc 0) (.lit (int 3))) (.lit (int 0)) (.lit (int 2))) .nil)))
section
variable{w:Wd}{n l rl cl kl ml b:Nat}{us cs ks:ah}{s:Bx}{h:Hp}{kd:Str}{lf:Int}{x4:aT}{ext:Sg}
def acZ{k:gZ}:(List.range 4).map (λq:Nat=>(List.range 3).map λb:Nat=>(i9 (n+1) false (aU 0 bZ)).o [some (.cell 0),none,none,none,none,none] [.bx s [(4,(q:Int)),(3,(b:Int))] (l+2)] k)=(List.range 4).map λq:Nat=>(List.range 3).map λb:Nat=>k (o7 (yc q) b none none) [.bx ((s.nx 4).nx 3) [] l]:=aO
def ac0{k:gZ}:(List.range 3).map (λb:Nat=>(i9 (n+1) true (aU 1 bZ)).o (o7 kd b none none) [.bx s [] l] k)=(List.range 3).map λb:Nat=>k (o7 kd b (some (.cell 4)) none) (dJ false s [] l (rows0 b) [] [] (aq-b) (aq-0) (aq-0) 6 (aq-4) []):=aO
def aaT{k:Ko}{ds:bz}:(gz (dW B1 (n+1) false) (dW B1 (n+1) true) e2E).e (o7 kd b (some (.cell 4)) x4) (dJ true s ds l us cs ks rl cl kl lf ml []) k=bif s.b.sm then k (.val (int 1)) (dJ true s ds l us cs ks rl cl kl lf ml [])else(gz (dW B1 (n+1) false) (dW B1 (n+1) true) e2F).e (o7 kd b (some (.cell 4)) x4) (dJ true s ds l us cs ks rl cl kl lf ml []) k:=aO
def ac1{k:Ko}:(List.range 3).map (λq:Nat=>(gz (dW B1 (n+1) false) (dW B1 (n+1) true) e2F).e (o7 kd b (some (.cell 4)) x4) (dJ true s [(3,(q:Int))] (l+1) us cs ks rl cl kl lf ml []) k)=(List.range 3).map λq:Nat=>k (.val (int (1+(q:Int)))) (dJ true (s.nx 3) [] l us cs ks rl cl kl lf ml []):=aO
def aaU{k:ah->Sg->aw}:(gz (dW B1 n false) (dW B1 n true) D4).s (o7 kd b (some (.cell 4)) x4) (dJ true s [] l us cs ks rl cl kl lf ml []) k=bif s.b.sm then k [.cell 0,.cell 4,.val (int b),.val (int (0:Nat))] (dJ true s [] l us cs ks rl cl kl lf ml [])else k [.cell 0,.cell 4,.val (int b),.val (int (2:Nat))] (dJ true s [] l us cs ks rl cl kl lf ml []):=aO
def ac2{k:gZ}:(i9 (n+1) false (aU 3 bZ)).o (o7 kd b (some (.cell 4)) x4) (dJ false s [] l us cs ks (rl+2) cl kl lf ml []) k=k (o7 kd b (some (.cell 4)) x4) (dJ false s [] l (us++[(gA "push" 0).t,(j9 "leave").t]) cs ks rl cl kl lf ml []):=aO
def fx(kd:Str):Sg:=[fT [.val (int 0)],fT [.val (str kd),.val (int 2),.cell 1,.cell 2,.cell 3,.cell 5]]
def ac3:(i9 (n+1) true (tl 4 bZ)).s (o7 kd b (some (.cell 4)) x4) (dJ false s [] l us cs ks rl cl kl lf ml []) doneK=some (.ret (.cell 6) (dJ false s [] l us cs ks rl cl kl lf ml (fx kd))):=aO
def AM{f:Fs}{h:Hp}{o:cj}{us:ah}{l:Nat}{p p':Bool}(r:iP f h (.buf (pcN p) us l) o):iP f h (.buf (pcN p') us l) o:=r.imp (λj=>id) λvs b=>by
 cases b with
 |mk us e q ln=>exact⟨us,by cases p<;>cases p'<;>exact e,q,ln⟩
def Wd.pc(w:Wd){p:Bool}(p':Bool){ds:bz}(e:w.σ=dJ p s ds l us cs ks rl cl kl lf ml ext):Wd:=⟨w.h,w.f,dJ p' s ds l us cs ks rl cl kl lf ml ext,by
 have W:=e▸w.ok;exact⟨W.k,W.nd,W.ln,W.zs,W.zn,Ca (P:=λi c=>Got w.f.l[i]? λa=>iP w.f w.h c (w.h a)) ((W.c 0 _ rfl).imp (λj=>id) λa r=>r) ((W.c 1 _ rfl).imp (λj=>id) λa r=>AM r) ((W.c 2 _ rfl).imp (λj=>id) λa r=>AM r) ((W.c 3 _ rfl).imp (λj=>id) λa r=>AM r) ((W.c 4 _ rfl).imp (λj=>id) λa r=>r) λi x q=>W.c (i+5) x q⟩⟩
end
def qm(b:Nat)(ps:Ps):ah:=(rows0 b++jy ps)++[(gA "push" 0).t,(j9 "leave").t]
structure PlR(kd:Str)(b:Nat)(ps:Ps)(cs:e9)(ks:List (Str×Int))(m:Ma):Prop where
 kd:kd∈We
 hb:b<=2
 lr:ps.length<=780
 lc:cs.length<=780
 lk:ks.length<=780
 has:mM m 15
 seg:Seg b b ps cs 0 (ng ks)
 DV:ks.all D0=true
def PlK(w:Wd)(Q:dm):Prop:=∀(w':Wd) v (m:Ma) kd b ps cs ks,w.Le w'->w'.σ=dJ false m.s [] m.l (qm b ps) (cs.map Ct.t) (ks.map dM) m.rl m.cl m.kl m.lf m.ml (fx kd)->w'.R (.cell 6) v->PlR kd b ps cs ks m->Q v w'.h
inductive LpI(w:Wd)(kd:Str)(b i:Nat)(ρ':aS)(h':Hp):Prop
 |mk (w':Wd) (m:Ma) (ps cs ks x4):w'.h=h'->w.Le w'->w'.σ=dJ true m.s [] m.l (rows0 b++jy ps) (cs.map Ct.t) (ks.map dM) m.rl m.cl m.kl m.lf m.ml []->gR w' (o7 kd b (some (.cell 4)) x4) ρ'->(i<=3->mM m ((3-i)*260+20))->ps.length<=260*i->cs.length<=260*i->ks.length<=260*i->Seg b b ps cs 0 (ng ks)->ks.all D0=true->LpI w kd b i ρ' h'
section
variable{w:Wd}{m:Ma}{base:Int}{X:bA}{n l rl cl kl ml b d:Nat}{cs ks:ah}{s:Bx}{ρ:aS}{sp:Spec}{h:Hp}{QQ:lM}{kd:Str}{lf:Int}{x4:aT}
def Og(k:eB sp aG ρ e2E h (λv h1=>gu v λk=>-(2^60)<k/\k<2^60/\qW (.range k) ρ [4] true (λρ' h' P=>fP sp aG ρ' D4 h' (λvs h1=>dD sp aG vs h1 (λj h2=>P (.next ρ') h2) X 494) X) h1 λfl h'=>eZ fl (λρ'=>bH sp aG (tl 3 bZ) ρ' h' QQ X) λv=>QQ (.ret v) h') X):bH sp aG (tl 2 bZ) ρ h QQ X:=k
def ac4:∀i,i<3->(3-(i+1))*260+20+260=(3-i)*260+20:=by decide
def Oh(I:Pc d)(hN:NB d<=260){i:Nat}(hi:i<3){w0:Wd}{ps:Ps}{cs:e9}{ks:List (Str×Int)}{v0 v4:Value}(hb:b<=2)(L0:w0.Le w)(e:w.σ=dJ true m.s [] m.l (rows0 b++jy ps) (cs.map Ct.t) (ks.map dM) m.rl m.cl m.kl m.lf m.ml [])(R:gR w (o7 kd b (some (.cell 4)) x4) ρ)(hm:mM m ((3-i)*260+20))(l1:ps.length<=260*i)(l2:cs.length<=260*i)(l3:ks.length<=260*i)
  (sg:Seg b b ps cs 0 (ng ks)) (kb:ks.all D0=true) (r0:w.R (.cell 0) v0) (r4:w.R (.cell 4) v4):bt du aG (n+d+9) 494 [v0,v4,int b,int d] w.h (λj h=>LpI w0 kd b (i+1) ρ h) X:=by
 have l0:(rows0 b).length=b:=List.length_replicate ..;have lu:(rows0 b++jy ps).length=b+ps.length:=by rw[aE,l0,jO]
 have zL:∀c,c<=(3-(i+1))*260+20->mM (m.pre [] [] []) (c+NB d):=λc hc=>by
  have q:=aa (cJ hc hN) (Nat.le_of_eq (ac4 i hi));exact⟨aa q hm.l,aa q hm.r,aa q hm.c,aa q hm.k⟩
 have i2:=hX 260 (Nat.le_of_lt_succ hi);have h0:=zL 0 (bO _);rw[cX]at h0;refine Cj (m:=m.pre [] [] []) (base:=b) I e h0 (d9 b) (by rw[lu];show 0+(b+ps.length)+NB d<=_;rw[cX];exact aa (cJ (cJ hb (aa l1 i2)) hN) aP) (by rw[au];show 0+ks.length+NB d<=_;rw[cX];exact aa (cJ (aa l3 i2) hN) aP) r0 r4 λw' m' AL ya uh L s a1 a2 a3 a4 a5 a6 a7=>?_;have a6:Seg b (b+ps.length) AL ya (0+(ng ks).length) (ng uh):=by
  have:=a6;rw[lu,au,show(m.pre [] [] []).R.length+(b+ps.length)=b+ps.length from cX _]at this;unfold ng at*;rw[au];exact this
 refine⟨w',m',ps++AL,cs++ya,ks++uh,x4,rfl,L0.trans L,?_,bo L R,λh=>a1 _ (zL _ (aH _)),?_,?_,?_,?_,?_⟩
 ·rw[k6,bM,bM,<-aQ];exact s
 ·rw[aE];exact cJ l1 (aa a2 hN)
 ·rw[aE];exact cJ l2 (aa a4 hN)
 ·rw[aE];exact cJ l3 (aa a5 hN)
 ·rw[show ng (ks++uh)=ng ks++ng uh from bM];exact sg.app a6
 ·rw[List.all_append,kb,a7];rfl
def Vs(k:wpS sp aG (aU 0 bZ) ρ h (λfl h1=>eZ fl (λρ1=>wpS sp aG (aU 1 bZ) ρ1 h1 (λfl h2=>eZ fl (λρ2=>bH sp aG (tl 2 bZ) ρ2 h2 QQ X) λv=>QQ (.ret v) h2) X) λv=>QQ (.ret v) h1) X):bH sp aG bZ ρ h QQ X:=k
def Vt(k:wpS sp aG (aU 3 bZ) ρ h (λfl h1=>eZ fl (λρ1=>bH sp aG (tl 4 bZ) ρ1 h1 QQ X) λv=>QQ (.ret v) h1) X):bH sp aG (tl 3 bZ) ρ h QQ X:=k
def IZ{Q:dm}{v0:Value}(e:w.σ=[.bx s [] l])(hl:900<=l)(r0:w.R (.cell 0) v0)(K:PlK w Q):bt du aG (n+12) 499 [v0] w.h Q X:=by
 have C:=a9 cq (n+11) false;have D:=a9 cq (n+11) true;have R0:gR w [some (.cell 0),none,none,none,none,none] (args mB [v0]):=kX (F:=mB) (ts:=[.cell 0]) rfl ⟨r0,trivial⟩;obtain⟨l,rfl⟩:∃l',l=l'+2:=⟨l-2,(eM (aa aP hl)).symm⟩
 have hl8:898<=l:=gE (gE hl);obtain⟨x,ds,md,yl,ln⟩:=ip (ms:=[(4,true),(3,true)]) s.b rfl;obtain⟨q,hq,b,hb,rfl⟩:∃q,q∈List.range 4/\∃b,b∈List.range 3/\ds=[((4:Int),((q:Nat):Int)),((3:Int),((b:Nat):Int))]:=by
  obtain⟨q,hq,z⟩:=List.mem_flatMap.mp md;obtain⟨d2,hd,rfl⟩:=ja z;obtain⟨b,hb,z⟩:=List.mem_flatMap.mp hd;exact⟨q,hq,b,hb,by rw[cI z];rfl⟩
 have b2:b<=2:=Nat.le_of_lt_succ (pY hb);refine⟨mB,rfl,aH 1,aH 1,Vs (nh (w:=w.gh _ e yl) (cF C D false _).o ⟨R0.1,R0.2⟩ (λk=>map_eq (map_eq (acZ (n:=n+10)) hq:) hb) λw1 ρ1 L1 s1 R1=>nh (cF C D true _).o R1 (λk=>(ak (λσ=>(i9 (n+11) true (aU 1 bZ)).o _ σ k) s1).trans (map_eq (ac0 (n:=n+10)) hb)) λw2 ρ2 L2 s2 R2=>?_)⟩;have L02:w.Le w2:=(show w.Le w1 from L1).trans L2;have loop:∀{w3:Wd}{s l}(i k:Nat)(hk:k=1+i)(hi:i<3),w.Le w3->w3.σ=dJ true s [] l (rows0 b) [] [] (aq-b) (aq-0) (aq-0) 6 (aq-4) []->800<=l->gR w3 (o7 (yc q) b (some (.cell 4)) none) ρ2->qW (.range (k:Int)) ρ2 [4] true (λρ' h' P=>fP (bt du aG (n+11)) aG ρ' D4 h' (λvs h1=>dD (bt du aG (n+11)) aG vs h1 (λj h2=>P (.next ρ') h2) X 494) X) w3.h λfl h'=>eZ fl (λρ'=>bH (bt du aG (n+11)) aG (tl 3 bZ) ρ' h' (λfl h'=>eZ fl (λj=>Q .none h') λv=>Q v h') X) λv=>Q v h':=by
  intro w3 s l i k hk hi L s3 h8 R3;have lm:1000<=aq:=by decide
  have k3:k<=3:=by rw[hk,fg];exact hi
  refine .mk (λi=>LpI w (yc q) b i) ⟨w3,⟨s,l,[],aq-b,[],aq-0,[],aq-0,6,aq-4⟩,[],[],[],none,rfl,L,by rw[show jy []=[]from rfl,c9];exact s3,R3,λj=>⟨h8,gi (aa (bc b2 800) (aa aP lm)),aa aP lm,aa aP lm⟩,aH _,aH _,aH _,.nil _ _ _,rfl⟩ (λj j j j=>trivial) (λi' ρ' h' li c=>?_) λρ' h' c=>?_
  ·have li:i'<k:=li
   cases c with
   |mk w' m ps cs ks x4 eh L' s' R' hm l1 l2 l3 sg kb=>
    subst eh;have R4:gR w' (o7 (yc q) b (some (.cell 4)) (some (.val (int i')))) (ρ'.set 4 (some (int i'))):=qJ R' 4 (t:=.val (int i')) ⟨rfl,rfl⟩;have i3:i'<3:=dI li k3;refine⟨rfl,?_⟩;have go:∀(d n':Nat),n'+d+9=n+11->Pc d->NB d<=260->(∀w4 vs,w'.Le w4->w4.σ=w'.σ->w4.L [.cell 0,.cell 4,.val (int b),.val (int d)] vs->dD (bt du aG (n+11)) aG vs w4.h (λj h=>LpI w (yc q) b (i'+1) (ρ'.set 4 (some (int i'))) h) X 494):=λd n' hn I hN w4 vs L4 s4 rs=>?_
    ·cases hs:m.s.b.sm with|true=>exact qe (dv C D _).s R4 (λk=>(ak (λσ=>(gz (dW B1 (n+11) false) (dW B1 (n+11) true) D4).s _ σ k) s').trans (aaU.trans (by rw[hs];rfl))) λw4 vs L4 s4 rs=>go 0 (n+2) rfl Cr aP w4 vs L4 (s4.trans s'.symm) rs|false=>exact qe (dv C D _).s R4 (λk=>(ak (λσ=>(gz (dW B1 (n+11) false) (dW B1 (n+11) true) D4).s _ σ k) s').trans (aaU.trans (by rw[hs];rfl))) λw4 vs L4 s4 rs=>go 2 n rfl Of aP w4 vs L4 (s4.trans s'.symm) rs
    cases vs with|nil=>exact rs.elim|cons u0 vs=>
    cases vs with|nil=>exact rs.2.elim|cons u1 vs=>
    cases vs with|nil=>exact rs.2.2.elim|cons u2 vs=>
    cases vs with|nil=>exact rs.2.2.2.elim|cons u3 vs=>
    cases vs with|cons _ _=>exact rs.2.2.2.2.elim|nil=>
    rw[rs.2.2.1.1,rs.2.2.2.1.1,<-hn];exact .fn rfl (Oh I hN i3 b2 (L'.trans L4) (s4.trans s') (bo L4 R4) (hm (cM i3)) l1 l2 l3 sg kb rs.1 rs.2.1)
  ·cases c with
   |mk w' m ps cs ks x4 eh L' s' R' hm l1 l2 l3 sg kb=>
    subst eh;have hm:mM m 20:=by
     have:=hm k3;exact⟨aa (cY _ _) this.l,aa (cY _ _) this.r,aa (cY _ _) this.c,aa (cY _ _) this.k⟩
    have l1:ps.length<=260*k:=l1;have l2:cs.length<=260*k:=l2;have l3:ks.length<=260*k:=l3;have rl:m.rl-2+2=m.rl:=eM (aa aP hm.r);have s5:(w'.pc false s').σ=dJ false m.s [] m.l (rows0 b++jy ps) (cs.map Ct.t) (ks.map dM) (m.rl-2+2) m.cl m.kl m.lf m.ml []:=by rw[rl];rfl
    refine Vt (nh (w:=w'.pc false s') (cF C D false _).o ⟨R'.1,R'.2⟩ (λk=>(ak (λσ=>(i9 (n+11) false (aU 3 bZ)).o _ σ k) s5).trans ac2) λw6 ρ6 L6 s6 R6=>?_);have E:Kq w6 (.ret (.cell 6) (dJ false m.s [] m.l (qm b ps) (cs.map Ct.t) (ks.map dM) (m.rl-2) m.cl m.kl m.lf m.ml (fx (yc q)))) Q X:=⟨λt σ e w7 v L7 s7 rv=>by
     injection e with e1 e2
     subst e1 e2;refine K w7 v ⟨m.s,m.l,[],m.rl-2,[],m.cl,[],m.kl,m.lf,m.ml⟩ (yc q) b ps cs ks (L'.trans ((show w'.Le w6 from L6).trans L7)) s7 rv ⟨?_,b2,aa l1 (hX 260 k3),aa l2 (hX 260 k3),aa l3 (hX 260 k3),⟨aa aP hm.l,gi (aa aP hm.r),aa aP hm.c,aa aP hm.k⟩,sg,kb⟩;exact bQ (show((List.range 4).all λq=>(We.contains (yc q)))=true by kernel_rfl) q hq|>List.contains_iff_mem.mp,nofun⟩
    exact(cF C D true (tl 4 bZ)).s ⟨w6,_,ρ6,_,R6⟩ doneK _ _ ((ak (λσ=>(i9 (n+11) true (tl 4 bZ)).s _ σ doneK) s6).trans ac3) E (mI (P:=⟨w6,_,ρ6,_,R6⟩) E)
 refine Og ?_;have fin:∀{w3:Wd}{v:Value}{s l}(i:Nat),i<3->w2.Le w3->w3.σ=dJ true s [] l (rows0 b) [] [] (aq-b) (aq-0) (aq-0) 6 (aq-4) []->800<=l->w3.R (.val (int (1+(i:Int)))) v->gu v λk=>-(2^60)<k/\k<2^60/\qW (.range k) ρ2 [4] true (λρ' h' P=>fP (bt du aG (n+11)) aG ρ' D4 h' (λvs h1=>dD (bt du aG (n+11)) aG vs h1 (λj h2=>P (.next ρ') h2) X 494) X) w3.h λfl h'=>eZ fl (λρ'=>bH (bt du aG (n+11)) aG (tl 3 bZ) ρ' h' (λfl h'=>eZ fl (λj=>Q .none h') λv=>Q v h') X) λv=>Q v h':=λi hi L s3 h8 rv=>by
  rw[rv.1];have:=loop i (1+i) rfl hi (L02.trans L) s3 h8 (bo L R2);exact⟨Int.lt_of_lt_of_le aP (d9 (1+i)),Int.lt_of_le_of_lt (eU.mpr (show 1+i<=3 by rw[fg];assumption)) aP,this⟩
 cases hs:((s.nx 4).nx 3).b.sm with
 |true=>exact mY (w:=w2.pc true s2) (dv C D _).e ⟨R2.1,R2.2⟩ (λk=>(aaT (n:=n+10)).trans (by rw[hs];rfl)) λw3 v L3 s3 rv=>fin 0 aP L3 s3 (aa aP hl8) rv|false=>
  obtain⟨l,rfl⟩:∃l',l=l'+1:=⟨l-1,(eM (aa aP hl8)).symm⟩
  obtain⟨x,ds,md,yl2,ln⟩:=ip (ms:=[(3,true)]) ((s.nx 4).nx 3).b rfl;obtain⟨i,hi,rfl⟩:∃i,i∈List.range 3/\ds=[((3:Int),((i:Nat):Int))]:=by
   obtain⟨d,hd,q⟩:=List.mem_flatMap.mp md;exact⟨d,hd,cI q⟩
  exact mY (w:=(w2.pc true s2).gh _ rfl yl2) (dv C D _).e ⟨R2.1,R2.2⟩ (λk=>(aaT (n:=n+10)).trans (by rw[hs];exact map_eq (ac1 (n:=n+10)) hi)) λw3 v L3 s3 rv=>fin i (pY hi) L3 s3 (aa aP (gE hl8)) rv
end
def ups(b:Nat):Ps:=(List.range b).map λi:Nat=>(gA "push" 7,(i:Int))
def fF(b:Nat)(ps:Ps):Ps:=ups b++(ps++[(gA "push" 0,(b:Int)),(j9 "leave",(b:Int)+1)])
def eY(q:Str×Int):Cd:=Qa q.1 q.2
def dH(kd:Str)(b:Nat)(ps:Ps)(cs:e9):Cd:=⟨kd,Wb (fF b ps),cs,[0]⟩
noncomputable def atB(d:fy)(p:Int×Int):Bool:=decide (0<=p.1)&&(d[p.1.toNat]?).elim false λo=>o.elim false λy=>decide (y=p.2)
def aaV(g:Gr)(d:fy):Bool:=decide (d.length=g.N)&&((g.starts.all λs=>atB d (s,0))&&(List.range d.length).all λi=>(d[i]?).elim false λo=>o.elim true λx=>g.ok i x&&(g.outs i x).all (atB d))
section
variable{kd:Str}{b:Nat}{ps:Ps}{cs:e9}{ks:List (Str×Int)}{d:fy}{p:Int×Int}{g:Gr}{c:Ct}{base:Int}{T:Int->Int->Prop}{U:Int->Str->Prop}
def I0(h:atB d p=true):qf d p.1 p.2:=by
 have h:=aA h;refine⟨cf h.1,?_⟩;have h2:=h.2
 cases e:d[p.1.toNat]? with
 |none=>rw[e]at h2;exact iM h2|some o=>
  rw[e]at h2
  cases o with
  |none=>exact iM h2|some y=>exact ak (λy=>some (some y)) (cf h2)
def Oi(h:aaV g d=true):Jv g d:=by
 have h1:=aA h;have h2:=aA h1.2;have row:∀(i:Nat) x,d[i]? =some (some x)->(g.ok i x&&(g.outs i x).all (atB d))=true:=λi x e=>by
  have:=bQ h2.2 i (List.mem_range.mpr (dO e).1);rw[e]at this;exact this
 exact⟨cf h1.1,λs m=>I0 (bQ h2.1 s m),λi x e=>(aA (row i x e)).1,λi x e p m=>I0 (bQ (aA (row i x e)).2 p m)⟩
def sT:List (Str×Int):=[(cG,0),(cG,1),(k' "method",0),(k' "method",1),(k' "class",0),(k' "class",1)]
def Oj:(sT.all λq=>gj (eY q) [] (eT (eY q) (fH 1 (eY q)))&&aaV (graph (eY q)) [some 0,some 1,some 0,some 1])=true:=aO
def Vu{q:Str×Int}(h:D0 q=true):q∈sT:=by
 obtain⟨s,i⟩:=q;have h:=aA h;have hi:i=0\/i=1:=by
  have:=h.2;rw[gg]at this;exact this.imp cf cf
 have hs:cG=s\/k' "method"=s\/k' "class"=s:=by
  have h1:((cG==s)||((k' "method"==s)||((k' "class"==s)||false)))=true:=h.1;rw[Bool.or_false,gg,gg]at h1;exact h1.imp eq_of_beq (Or.imp eq_of_beq eq_of_beq)
 rcases hs with rfl|rfl|rfl<;>rcases hi with rfl|rfl<;>simp[sT]
def Ol{q:Str×Int}(h:D0 q=true){D:Option fy}(hD:d8 (eY q) (fH 1 (eY q)) D):D≠none:=λz=>by
 have t:=aA (bQ Oj q (Vu h));subst z
 cases hD with
 |yes _ _ r=>exact r _ (Oi t.2)|no e=>rw[t.1]at e;exact Qu e
def jM.down{i x:Int}{r:Rw}(h:jM base T U i x r)(b0:0<=base):jM 0 T U i x r:=⟨Int.le_trans b0 h.low,h.U3,h.sm,h.rest,h.tk,h.jmp,h.pL⟩
def iq:(dX (ups b)).length=b:=by unfold dX ups;rw[au,au,List.length_range]
def jQ:dX (fF b ps)=dX (ups b)++((dX ps++[(b:Int)])++[(b:Int)+1]):=by unfold fF;rw[jN,jN,aQ];rfl
def D5(sg:Seg b b ps cs 0 (ng ks))(hb:b<=2):eG 0 (Tg 0 (dX (fF b ps))) (lH 0 (ng ks)) 0 (fF b ps):=by
 have b0:(0:Int)<=b:=d9 b;have sr:=sg.rows;have up:∀{j y},Tg b (dX ps++[(b:Int)]) j y->Tg 0 (dX (fF b ps)) j y:=λt=>by
  rw[jQ];refine Tg.shift (A:=dX (ups b)) ?_;rw[iq,cX];exact t
 obtain⟨C,eC⟩:=n4 sg.ent [(b:Int)+1];have eH:dX (fF b ps)=dX (ups b)++(b:Int)::C:=by rw[jQ,aQ];exact ak _ eC
 have psh:∀{i:Nat}{x k:Int},k.natAbs<=10->0<=x->Tg 0 (dX (fF b ps)) ((i+1:Nat):Int) (x+1)->jM 0 (Tg 0 (dX (fF b ps))) (lH 0 (ng ks)) i x (gA "push" k):=λ{i x k} hk x0 t=>by
  have ef:dY (gA "push" k)=(0,1):=aO;refine⟨x0,aO,?_,λN kinds J J=>by kernel_rfl,by rw[ef];exact x0,λz=>?_,λJ=>?_⟩
  ·show(decide (k.natAbs<=999000)&&true)=true
   rw[aZ (aa hk aP)];rfl
  ·have:fA (gA "push" k).op fM=false:=aO;rw[this]at z;exact iM z
  ·rw[ef]
   show Tg _ _ _ (x-0+1)
   rw[Int.sub_zero];exact t
 have last:eG 0 (Tg 0 (dX (fF b ps))) (lH 0 (ng ks)) (b+ps.length) [(gA "push" 0,(b:Int)),(j9 "leave",(b:Int)+1)]:=by
  have en:fA (j9 "leave").op o4=true:=aO;refine .cons (psh aP b0 ?_) (.one (tN (t:=1) (q:=0) (aO) (λN kinds=>by kernel_rfl) (by lia) (by lia) λz=>by rw[en]at z;exact Qu z));refine .at (A:=dX (ups b)++(dX ps++[(b:Int)])) (B:=[]) (by rw[jQ,<-aQ]) ?_;rw[aE,aE,iq,il];exact ak _ (show b+ps.length+1=0+(b+(ps.length+1)) by lia)
 have mid:eG 0 (Tg 0 (dX (fF b ps))) (lH 0 (ng ks)) b (ps++[(gA "push" 0,(b:Int)),(j9 "leave",(b:Int)+1)]):=.app (λn q e=>((sr n q e).mono (λJ J=>up) λJ J=>id).down b0) last;have h0:∀i:Nat,i<=b->Tg 0 (dX (fF b ps)) (i:Int) (i:Int):=λi hi=>by
  rw[eH];by_cases z:i=b
  ·rw[z];refine .at (A:=dX (ups b)) rfl ?_;rw[iq,cX]
  ·refine⟨i,by rw[cX],?_⟩;rw[fO (by rw[iq];lia)];unfold dX ups;rw[dq,cy,List.getElem?_range (by lia)];rfl
 refine .app (a:=ups b) (λn q e=>?_) (by rw[cX,show(ups b).length=b from by unfold ups;rw[au,List.length_range]];exact mid);obtain⟨i,ei,rfl⟩:=dA ((cy (l:=List.range b)).symm.trans e);have li:n<b:=by have:=(dO ei).1;rwa [List.length_range]at this
 rw[List.getElem?_range li]at ei;obtain rfl:=ar ei;rw[cX];exact psh aP (d9 n) (h0 (n+1) li)
def mw:(dH kd b ps cs).rows.length=(dX (fF b ps)).length:=by rw[il];exact au ..
def wb(sg:Seg b b ps cs 0 (ng ks))(hb:b<=2){i:Nat}{r:Rw}(e:(dH kd b ps cs).rows[i]? =some r):∃x,(dX (fF b ps))[i]? =some x/\jM 0 (Tg 0 (dX (fF b ps))) (lH 0 (ng ks)) i x r:=by
 obtain⟨q,eq,rfl⟩:=dA ((cy (l:=fF b ps)).symm.trans e);have:=D5 sg hb i q eq;rw[cX]at this;exact⟨q.2,(cy ..).trans (by rw[eq];rfl),this⟩
def I1{H:dN}{j y:Int}(t:Tg 0 H j y):0<=j/\j<H.length/\H[j.toNat]? =some y:=by
 obtain⟨k,rfl,e⟩:=t;rw[cX];exact⟨d9 k,Int.ofNat_lt.mpr (dO e).1,e⟩
def AN(sg:Seg b b ps cs 0 (ng ks))(hb:b<=2)(hk:kd∈We):gj (dH kd b ps cs) (ng ks) 1=true:=by
 have rows:((dH kd b ps cs).rows.all (eX (dH kd b ps cs).rows.length 1 (ng ks)))=true:=by
  refine List.all_eq_true.mpr λr m=>?_;obtain⟨i,li,ei⟩:=List.mem_iff_getElem.mp m;obtain⟨x,_,q⟩:=wb sg hb (List.getElem?_eq_some_iff.mpr ⟨li,ei⟩);show(d7 r&&restOk _ 1 _ r)=true
  rw[q.U3,q.rest _ _ (λj y t=>by rw[mw];exact(I1 t).2.1) λj k u=>?_];rfl;obtain⟨i,rfl,e⟩:=u;show(decide _&&_)=true
  rw[cX,aZ (d9 i),Int.toNat_natCast,e];exact cW k
 have cats:((dH kd b ps cs).cats.all (kD (dH kd b ps cs).rows.length))=true:=by
  refine List.all_eq_true.mpr λc m=>?_;have ca:=sg.cats c m;have lh:(dX (fF b ps)).length=b+((dX ps).length+1+1):=by rw[jQ,aE,iq,aE,aE];rfl
  cases ca with
  |mk s x y t hs l1 l2 e=>
   have lt:=(dO e).1;have ns:(s==kY)=false:=by rcases hs with rfl|rfl<;>kernel_rfl
   have el:(((dH kd b ps cs).rows.length:Nat):Int)=((b+((dX ps).length+1+1):Nat):Int):=by rw[mw,lh]
   unfold kD;rw[el,ns,aZ (show(0:Int)<=((b+x:Nat):Int) by lia),aZ (show((b+x:Nat):Int)<((b+y:Nat):Int) by lia),aZ (show((b+y:Nat):Int)<=_ by lia),aZ (show(0:Int)<=((b+t:Nat):Int) by lia),aZ (show((b+t:Nat):Int)<_ by lia),b9 (show¬(b:Int)<0 by lia)];rfl
 show((fA kd kindS&&true)&&(_&&_))=true
 rw[rows,cats];have:=bQ (show(We.all λk=>fA k kindS)=true by kernel_rfl) kd hk;rw[this];rfl
theorem I4(sg:Seg b b ps cs 0 (ng ks))(hb:b<=2):Jv (graph (dH kd b ps cs)) ((dX (fF b ps)).map some):=by
 have at_:∀{j y:Int},Tg 0 (dX (fF b ps)) j y->qf ((dX (fF b ps)).map some) j y:=λt=>⟨(I1 t).1,by rw[cy,(I1 t).2.2];rfl⟩
 have get:∀(i:Nat) x,((dX (fF b ps)).map some)[i]? =some (some x)->∃r,(dH kd b ps cs).rows[i]? =some r/\jM 0 (Tg 0 (dX (fF b ps))) (lH 0 (ng ks)) i x r:=λi x e=>by
  obtain⟨y,ey,z⟩:=dA ((cy ..).symm.trans e);obtain rfl:=ar z;have li:=(dO ey).1;have li2:i<(dH kd b ps cs).rows.length:=mw▸li;obtain⟨x2,e2,q⟩:=wb sg hb (bN li2);cases ey.symm.trans e2;exact⟨_,bN li2,q⟩
 refine⟨by rw[au];exact mw.symm,λs m=>?_,λi x e=>?_,λi x e p m=>?_⟩
 ·rw[show s=0 from cI m];refine at_ ⟨0,rfl,?_⟩;obtain⟨C,eC⟩:=n4 sg.ent [(b:Int)+1];rw[jQ,aQ,show dX ps++([(b:Int)]++[(b:Int)+1])=(b:Int)::C from eC]
  cases b with
  |zero=>rfl|succ b=>
   rw[fO (by rw[iq];exact Nat.succ_pos b)];unfold dX ups;rw[dq,cy,List.getElem?_range (Nat.succ_pos b)];rfl
 ·obtain⟨r,er,q⟩:=get i x e;show((dH kd b ps cs).rows[i]?).elim false _=true
  rw[er];show(decide ((dY r).1<=x)&&gV cs i x)=true
  rw[aZ q.tk,Bool.true_and];refine List.all_eq_true.mpr λc m=>?_;have ca:=sg.cats c m
  cases z:gU i c with
  |false=>rfl|true=>
   have z:=aA z;have h1:=cf z.1;have h2:=cf z.2
   cases ca with
   |mk s a b' t hs l1 l2 e'=>
    have h1:((b+a:Nat):Int)<=i:=h1;have h2:(i:Int)<((b+b':Nat):Int):=h2;obtain⟨y,ey,w⟩:=dA ((cy ..).symm.trans e);obtain rfl:=ar w;rw[jQ,aQ,fD (by rw[iq];exact aa (aW ..) (eU.mp h1)),iq,fO (Nat.sub_lt_left_of_lt_add (aa (aW ..) (eU.mp h1)) (dI (Int.ofNat_lt.mp h2) (bc l2 _)))]at ey;obtain⟨q2,e2,rfl⟩:=dA ((cy ..).symm.trans ey);exact aZ (sg.rows _ q2 e2).low
 ·obtain⟨r,er,q⟩:=get i x e;have m:p∈((dH kd b ps cs).rows[i]?).elim [] λr=>sL (dH kd b ps cs) r i x:=m;rw[er]at m;have m:p∈iS r (x-(dY r).1+(dY r).2)++kE r i (x-(dY r).1+(dY r).2)++mf cs i:=m;rcases fZ m with m|m
  ·rcases fZ m with m|m
   ·unfold iS at m;cases z:fA r.op fM<;>rw[z]at m
    ·cases m
    ·rw[cI m];exact at_ (q.jmp z)
   ·unfold kE at m;cases z:fA r.op o4<;>rw[z]at m
    ·rw[cI m];exact at_ (q.pL z)
    ·cases m
  ·obtain⟨c,mc,rfl⟩:=ja m;have ca:=sg.cats c (List.mem_filter.mp mc).1
   cases ca with
   |mk s a b' t hs l1 l2 e'=>
    refine at_ ?_;rw[jQ,aQ];have:=Tg.shift (p:=0) (A:=dX (ups b)) (B:=[(b:Int)]++[(b:Int)+1]) (H:=dX ps) (j:=((b+t:Nat):Int)) (y:=(b:Int)+1) (by rw[iq,cX];exact⟨t,rfl,e'⟩);exact this
def I5:eT (dH kd b ps cs) 0=1:=by unfold eT;cases(dH kd b ps cs).kind==cG<;>rfl
def I6(sg:Seg b b ps cs 0 (ng ks))(hb:b<=2)(hk:kd∈We)(kf:ks.all D0=true)(ex:∀q∈ks,∃D,d8 (eY q) (fH 1 (eY q)) D){D:Option fy}(h:iD (dH kd b ps cs) (ks.map eY) 0 D):D≠none:=λz=>by
 subst z
 cases h with
 |yes _ _ r=>exact r _ (I4 sg hb)|no g=>
  refine g ⟨?_,λk m=>?_⟩
  ·rw[I5,dq];exact AN sg hb hk
  ·obtain⟨q,mq,rfl⟩:=ja m;rw[I5];obtain⟨D,hD⟩:=ex q mq
   cases D with
   |none=>exact(Ol (bQ kf q mq) hD rfl).elim|some d=>exact⟨d,hD⟩
end
def yd(d:fy):lX (d.map pb) (d.map pb)=some true:=by
 induction d with
 |nil=>rfl|cons o d ih=>
  show((valOf (pb o)).bind λv=>(valOf (pb o)).bind λw=>(kG v w).bind λa=>(lX (d.map pb) (d.map pb)).bind λb=>some (a&&b))=some true
  rw[ih]
  cases o with
  |none=>rfl|some x=>
   show some ((x==x)&&true)=some true
   rw[cW];rfl
def Qq(D:Option fy):jw [] .Eq (dT D) (dT D)=some true:=by
 cases D with
 |none=>rfl|some d=>
  show(if(d.map pb).length=(d.map pb).length then lX (d.map pb) (d.map pb)else some false)=some true
  rw[av rfl];exact yd d
def aaW(D:Option fy):jw [] .NotEq (dT D) (dT D)=some false:=by
 show(jw [] .Eq (dT D) (dT D)).map (!·)=_
 rw[Qq];rfl
noncomputable def AO:E:=.call (.glob (.ref 556)) (.cons (.loc 2) (.cons (.list .nil) .nil))
noncomputable def sU:E:=.cons (.call (.glob (.ref 561)) (.cons (.loc 2) .nil)) .nil
noncomputable def I7(t:Tr):bU:=[none,none,some t]
section
variable{w:Wd}{cd:Cd}{kids:iC}{n:Nat}{Q:dm}{X:bA}{ρ:aS}{t:Tr}
def Om(b:mi cd)(bk:∀k∈kids,mi k):∃D,iD cd kids 0 D/\F0 (n+7) 556 [cd.t (kids.map Cd.t0),.lst []] []=iF (dT D) []:=
 AA (n:=n+1) (out:=0) (bO 1) b λk m o eo=>by
  have ho:o<=1:=by
   rw[eo];unfold fH eT;cases k.kind==cG<;>cases cd.kind==cG<;>decide
  obtain⟨D,h1,h2⟩:=AA (n:=n) (kids:=[]) ho (bk k m) λj m=>qP m;exact⟨D,d8.to h1,h2⟩
def aaX{k:Ko}:(gz (F0 n) (dW Ak n true) AO).e (I7 t) [] k=dF (F0 n 556 [t,.lst []] []) k:=aO
def Vv{k:ah->Sg->aw}:(gz (F0 n) (dW Ak n true) sU).s (I7 t) [] k=dF (F0 n 561 [t] []) λx σ=>k [x] σ:=aO
def ye(hw:w.σ=[])(R:gR w (I7 (cd.t (kids.map Cd.t0))) ρ)(bd:mi cd)(bk:∀k∈kids,mi k)(K:∀D,iD cd kids 0 D->Kr w (dT D) [] Q):eB (bt du aG (n+7)) aG ρ AO w.h Q X:=by
 obtain⟨D,h1,h2⟩:=Om (n:=n) bd bk;exact mY (dv (a9 sA (n+7) false) (a9 sA (n+7) true) AO).e R (λk=>by rw[hw];exact aaX.trans (cn h2 rfl)) (K D h1)
def yf{op:CmpOp}{bb:Bool}(hop:∀D,jw [] op (dT D) (dT D)=some bb)(hw:w.σ=[])(R:gR w (I7 (cd.t (kids.map Cd.t0))) ρ)(bd:mi cd)(bk:∀k∈kids,mi k)(lk:kids.length<=1000)(K:∀w':Wd,w.Le w'->Q (.bool bb) w'.h):
  eB (bt du aG (n+9)) aG ρ (.cmp (.call (.glob (.ref 568)) sU) (.jz op AO .nil)) w.h Q X:=by
 have Iq:1000<aq:=by decide
 have ce:F0 (n+9) 561 [cd.t (kids.map Cd.t0)] []=iF (cd.o (kids.map Cd.o0)) []:=B4 (n:=n+7) (λk m=>B4 (n:=n+6) (kids:=[]) (λj m=>qP m) (bP (bk k m).rows Iq) (bP (bk k m).cats Iq) (bP (bO _) Iq)) (bP bd.rows Iq) (bP bd.cats Iq) (bP lk Iq);refine(show fP (bt du aG (n+9)) aG ρ sU w.h (λvs h2=>dD (bt du aG (n+9)) aG vs h2 (λv h'=>Jz (bt du aG (n+9)) aG ρ (.jz op AO .nil) v h' Q X) X 568) X->_ from id) ?_;refine qe (dv (a9 sA (n+9) false) (a9 sA (n+9) true) sU).s R (λk=>by rw[hw];exact Vv.trans (cn ce rfl)) λw1 vs L1 s1 r1=>.fn rfl ?_
 cases vs with|nil=>exact r1.elim|cons v vs=>
 cases vs with|cons _ _=>exact r1.2.elim|nil=>
 refine NV (n:=n) s1 bd bk r1.1 λD hD w2 v L2 s2 r2=>?_;refine ye (n:=n+2) (w:=w2) s2 (bo (L1.trans L2) R) bd bk λD' hD' w3 u L3 s3 r3=>?_;obtain rfl:=hD.uniq hD';exact⟨bb,Bt (L3.R r2) r3 bb (by rw[s3];exact hop D),K w3 ((L1.trans L2).trans L3)⟩
def n7{a:Addr}:a∉([]:bJ):=λm=>qP m
def Wd.back{w1:Wd}(L:(w.fz 0).Le w1):∃w':Wd,w'.h=w1.h/\w'.σ=w.σ/\w.Le w'/\w'.f=w.f:=by
 have L2:iA w.h w.f w1.h w.f:=⟨λa o e n=>L.keep a o e n7,L.live,λj j q=>q,λj=>.inl,rfl⟩
 refine⟨⟨w1.h,w.f,w.σ,⟨λa o e=>⟨L.keep a o (w.ok.k a o e).1 n7,(w.ok.k a o e).2⟩,w.ok.nd,w.ok.ln,λa m e=>w.ok.zs a m (L.live a e),w.ok.zn,λi c e=>?_⟩⟩,rfl,rfl,L2,rfl⟩
 cases w.ok.c i c e with
 |mk a ea rc=>
  refine⟨a,ea,?_⟩
  cases z:w.h a with
  |none=>exact(r8 rc z).elim|some o=>
   rw[z]at rc;rw[L.keep a o z n7];exact jk L2 rc
end
section
variable{w:Wd}{kd:Str}{b:Nat}{ps:Ps}{cs:e9}{ks:List (Str×Int)}{m:Ma}
def Vw:(sT.all λq=>(eY q).rows.all Rw.small)=true:=aO
def wc{q:Str×Int}(h:D0 q=true):mi (eY q):=
 ⟨show 4<=1000 by decide,bO _,show 1<=1000 by decide,λr m=>bQ (bQ Vw q (Vu h)) r m,λs m=>by rw[show s=0 from cI m];exact bO _,λj m=>qP m⟩
def aaY:jy (ups b)=rows0 b:=by
 unfold jy Wb ups rows0;rw[dq,dq];have:∀l:aC,l.map (λj=>(gA "push" 7).t)=List.replicate l.length (gA "push" 7).t:=λl=>List.map_const' ..;exact(this _).trans (by rw[List.length_range])
def AP:qm b ps=(dH kd b ps cs).rows.map Rw.t:=by
 show _=jy (fF b ps)
 unfold fF qm;rw[k6,k6,aaY,aQ];rfl
def mN{o:bV}(h:o.gY=true):o.small=true:=by
 cases o with
 |int i=>exact aZ (aa (cf (p:=i.natAbs<=999000) h) aP)|_=>rfl
def pW{r:Rw}(h:r.gY=true):r.small=true:=by
 have h:=aA h;have h2:=aA h.2;show(_&&(_&&(_&&true)))=true
 rw[mN h.1,mN h2.1,mN (aA h2.2).1];rfl
def yg(r:PlR kd b ps cs ks m):∀x∈(dH kd b ps cs).rows,x.gY=true:=λx mx=>by
 obtain⟨i,li,ei⟩:=List.mem_iff_getElem.mp mx;obtain⟨_,_,q⟩:=wb r.seg r.hb (List.getElem?_eq_some_iff.mpr ⟨li,ei⟩);exact q.sm
def Oo(r:PlR kd b ps cs ks m):mi (dH kd b ps cs):=by
 have hb:=r.hb;have l1:=r.lr;refine⟨?_,aa r.lc aP,show 1<=1000 by decide,λx mx=>pW (yg r x mx),λs m=>by rw[show s=0 from cI m];exact bO _,λc mc=>?_⟩
 ·rw[mw,jQ,aE,iq,aE,aE,il]
  show b+(ps.length+1+1)<=1000
  lia
 ·cases r.seg.cats c mc with|mk s x y t hs _ _ _=>exact⟨show((b:Nat):Int).natAbs<=1000000 by lia,hs.elim (λh=>.inr (.inl h)) λh=>.inr (.inr h)⟩
def AQ:ks.map dM=(ks.map eY).map Cd.t0:=by rw[dq];rfl
def AR(s:w.σ=dJ false m.s [] m.l (qm b ps) (cs.map Ct.t) (ks.map dM) m.rl m.cl m.kl m.lf m.ml (fx kd)){v:Value}(r:w.R (.cell 6) v):(w.fz 0).R ((dH kd b ps cs).t ((ks.map eY).map Cd.t0)) v:=by
 have:=Hk (n:=0) r;rw[s]at this;have e:∀G:Nat->Tr,Tr.lst [.val (str kd),.val (int 2),.lst (eE G (qm b ps)),.lst (eE G (cs.map Ct.t)),.lst (eE G (ks.map dM)),.lst [.val (int 0)]]=(dH kd b ps cs).t ((ks.map eY).map Cd.t0):=λG=>by rw[AP (kd:=kd) (cs:=cs),fN (f:=Rw.t) λr=>pV r,n5,IW,AQ];rfl
 exact(e _)▸this
end
def dE{h:Hp}{a:Addr}{o:MO}(e:h a=none):h.Le (h.set a o):=λb o' q=>(Hp.bj λz=>aI e (z▸q)).trans q
def le_none{h h':Hp}(L:h.Le h'){a:Addr}(e:h' a=none):h a=none:=is_none λo z=>aI e (L a o z)
section
variable{sp:Spec}{h:Hp}{l:Addr}{ns:dN}{n:Nat}{Q:dm}{X:bA}{ρ:aS}
def I8{k:Nat}(hl:h l=some (.ro (ns.map int)))(kb:cutAt (ns.map int).length (ns.map int).length (int k)=some (min k (ns.map int).length))(K:∀a,h a=none->Q (.ref a) (h.set a (.list ((ns.take k).map int)))):gH (.ref l) .none (int k) h Q:=by
 refine .list (ns.map int) 0 (min k (ns.map int).length) (by rw[hl];rfl) rfl ?_ λa ea=>?_
 ·exact kb
 ·have:cut (ns.map int) 0 (min k (ns.map int).length)=(ns.take k).map int:=by
   unfold cut;rw[List.drop_zero,List.map_take];by_cases z:k<=(ns.map int).length
   ·rw[Nat.min_eq_left z]
   ·rw[Nat.min_eq_right (Nat.le_of_not_le z),List.take_length,List.take_of_length_le (Nat.le_of_not_le z)]
  rw[this];exact K a ea
def take_snoc{α β:Type}{xs:List α}{f:α->β}{i:Nat}(h:i<xs.length):(xs.take i).map f++[f xs[i]]=(xs.take (i+1)).map f:=by rw[List.take_add_one,bN h,bM];rfl
def envX(l:Addr)(x1:bq)(g sd:Int):aS:=[some (.ref l),x1,some (int g),some (int sd),none]
section
variable{QQ:lM}
def Vx(k:wpS sp aG (aU 0 jA) ρ h (λfl h1=>eZ fl (λρ1=>wpS sp aG (aU 1 jA) ρ1 h1 (λfl h2=>eZ fl (λρ2=>bH sp aG (tl 2 jA) ρ2 h2 QQ X) λv=>QQ (.ret v) h2) X) λv=>QQ (.ret v) h1) X):bH sp aG jA ρ h QQ X:=k
def ac5(hl:h l=some (.ro (ns.map int)))(K:∀a,h a=none->Q (.ref a) (h.set a (.list ((ns.take 1).map int)))):gH (.ref l) .none (int (1:Nat)) h Q:=I8 hl (by show(if(0:Int)<=1/\(1:Int)<2^62 then some (min (1:Int).toNat _)else none)=_;rw[av aP];rfl) K
def aaZ(hl:h l=some (.ro (ns.map int)))(K:∀a,h a=none->Q (.ref a) (h.set a (.list ((ns.take 24).map int)))):gH (.ref l) .none (int (24:Nat)) h Q:=I8 hl (by show(if(0:Int)<=24/\(24:Int)<2^62 then some (min (24:Int).toNat _)else none)=_;rw[av aP];rfl) K
def aa0(hl:h l=some (.ro (ns.map int)))(K:∀h' nG,h.Le h'->QQ (.next (envX l none nG 33023)) h'):wpS sp aG (aU 0 jA) [some (.ref l),none,none,none,none] h QQ X:=by
 have Iq:100<aq:=by decide
 have hz:∀{h':Hp},h.Le h'->h' l=some (.ro (ns.map int)):=λL=>L _ _ hl;show∀a,h a=none->_
 intro a ea;have L1:h.Le (h.set a (.list [int 0])):=dE ea;have ha1:(h.set a (.list [int 0])) a=some (.list [int 0]):=Hp.set_same ..;generalize h.set a (.list [int 0])=h1 at L1 ha1;refine ac5 (hz L1) λc ec=>?_;have L2:=L1.trans (dE (o:=.list ((ns.take 1).map int)) ec);have hc2:(h1.set c (.list ((ns.take 1).map int))) c=some (.list ((ns.take 1).map int)):=Hp.set_same ..;have ha2:=dE (o:=.list ((ns.take 1).map int)) ec _ _ ha1;generalize h1.set c (.list ((ns.take 1).map int))=h2 at L2 hc2 ha2;have l1:(ns.take 1).length<=1:=List.length_take_le ..;generalize ns.take 1=ms at hc2 l1;have lc:(ms.map int).length=ms.length:=au ..;refine⟨.seq c (ms.map int),by rw[hc2];rfl,.mk (λi acc h'=>h'=h2/\acc=(ms.take i).map λx=>int (x-10^18)) ⟨rfl,rfl⟩ ?_ ?_ ?_⟩
 ·rintro i acc h' ⟨rfl,rfl⟩
  exact⟨show listOf (h' c)=_ by rw[hc2];rfl,by rw[au,List.length_take];exact bP (Nat.min_le_right _ _) (bP (aa l1 (show 1<=100 by decide)) Iq)⟩
 ·rintro i acc h' li ⟨rfl,rfl⟩
  have li':i<ms.length:=lc▸li;exact⟨int ms[i],by rw[cy,bN li'];rfl,by decide,by decide,by decide,rfl,take_snoc (f:=λx=>int (x-10^18)) li'⟩
 ·rintro acc h' ⟨rfl,rfl⟩ d ed
  have e1:ms.take (Src.seq c (ms.map int)).len=ms:=by rw[show(Src.seq c (ms.map int)).len=ms.length from lc,List.take_length]
  rw[e1];have L3:=L2.trans (dE (o:=.list (ms.map λx=>int (x-10^18))) ed);have ha3:=dE (o:=.list (ms.map λx=>int (x-10^18))) ed _ _ ha2;refine⟨[int 0],_,rfl,ha3,Hp.set_same ..,?_,λe ee=>.max rfl ⟨0::ms.map λx=>x-10^18,nofun,by rw[Hp.set_same,List.map_cons,dq];rfl,λgr j j=>⟨by decide,by decide,by decide,⟨by decide,λf ef=>⟨[int _,int 33023],by rw[Hp.set_same];rfl,rfl,K _ _ ((L3.trans (dE ee)).trans (dE ef))⟩⟩⟩⟩⟩;rw[aE,au];exact aa (bc l1 1) (cM (bP (show 1+1<=100 by decide) Iq))
def aa1{nG:Int}(hl:h l=some (.ro (ns.map int)))(K:∀h' x1 sd,h.Le h'->0<=sd->sd<2147483629->QQ (.next (envX l x1 nG sd)) h'):wpS sp aG (aU 1 jA) (envX l none nG 33023) h QQ X:=by
 show gH (.ref l) .none (int (24:Nat)) h _
 refine aaZ hl λg eg=>?_;have L6:=dE (o:=.list ((ns.take 24).map int)) eg;have hg6:(h.set g (.list ((ns.take 24).map int))) g=some (.list ((ns.take 24).map int)):=Hp.set_same ..;generalize h.set g (.list ((ns.take 24).map int))=h6 at L6 hg6;generalize ns.take 24=ms at hg6;refine⟨.seq g (ms.map int),by rw[hg6];rfl,.mk (λi ρ' h'=>h'=h6/\∃(x1:bq)(sd:Int),ρ'=envX l x1 nG sd/\0<=sd/\sd<2147483629) ⟨rfl,none,33023,rfl,by decide,by decide⟩ ?_ ?_ ?_⟩
 ·rintro i ρ' h' ⟨rfl,_⟩
  show listOf (h' g)=_
  rw[hg6];rfl
 ·rintro i ρ' h' li ⟨rfl,x1,sd,rfl,s0,s1⟩
  have li':i<ms.length:=(au (as:=ms) int)▸li;refine⟨int ms[i],by rw[cy,bN li'];rfl,?_⟩;generalize ms[i]=cell;exact⟨.inr aP,⟨by decide,rfl,_,_,rfl,Int.fmod_nonneg_of_pos _ aP,Int.fmod_lt_of_pos _ aP⟩⟩
 ·rintro ρ' h' ⟨rfl,x1,sd,rfl,s0,s1⟩
  exact K h' x1 sd L6 s0 s1
def aa2{nG sd:Int}{x1:bq}(hl:h l=some (.ro (ns.map int)))(K:∀bb h',h.Le h'->dj (.list [int nG,int sd,int 0,.bool bb]) h' λv h=>QQ (.ret v) h):bH sp aG (tl 2 jA) (envX l x1 nG sd) h QQ X:=by
 show∀k,h k=none->_
 intro k ek;have L7:h.Le (h.set k (.list [])):=dE ek;have hl7:=L7 _ _ hl;have hk7:(h.set k (.list [])) k=some (.list []):=Hp.set_same ..;generalize h.set k (.list [])=h7 at L7 hl7 hk7;refine⟨ns.isEmpty,?_,?_⟩
 ·show((listOf (h7 l)).bind λxs=>(listOf (h7 k)).bind λys=>if xs.length=ys.length then pZ xs ys else some false)=_
  rw[hl7,hk7];cases ns<;>rfl
 cases ns with
 |nil=>exact K true h7 L7|cons x ns=>
  show kc aG "len" [.ref l] h7 _
  cases ns with
  |cons y ns=>
   have:(((((x::y::ns).map int).length:Nat):Int)==1)=false:=dQ.mpr λz=>nomatch Int.ofNat.inj z;exact .len rfl (AX.mk _ (by rw[hl7];rfl) ⟨false,ak some this,K false h7 L7⟩)
  |nil=>
   refine .len rfl (AX.mk _ (by rw[hl7];rfl) ⟨true,rfl,?_⟩)
   show hA (.ref l) (int 0) h7 _
   refine .mk _ (int x) 0 (by rw[hl7];rfl) rfl rfl ?_;exact .abs rfl ⟨_,rfl,K _ h7 L7⟩
end
def Vy(hl:h l=some (.ro (ns.map int)))(hn:ns.length<=63)(K:∀h' b (s:Bx),h.Le h'->h b=none->h' b=some (.list (SH s))->s.b.ct=0->Q (.ref b) h'):bt du aG (n+1) 432 [.ref l] h Q X:=
 ⟨A2,rfl,aH 1,aH 1,Vx (aa0 hl λh1 nG L1=>aa1 (L1 _ _ hl) λh2 x1 sd L2 s0 s1=>aa2 ((L1.trans L2) _ _ hl) λbb h3 L3 b eb=>K _ b ⟨⟨nG,sd,0,bb⟩,s0,s1,et 0⟩ (((L1.trans L2).trans L3).trans (dE eb)) (le_none ((L1.trans L2).trans L3) eb) (Hp.set_same ..) rfl)⟩
end
def I9:Prop:=∀{n:Nat}{w:Wd}{m:Ma}{kd:Str}{b:Nat}{ps:Ps}{cs:e9}{ks:List (Str×Int)}{vb vp:Value}{Q:bA}{X:bA},
 w.σ=dJ false m.s [] m.l (qm b ps) (cs.map Ct.t) (ks.map dM) m.rl m.cl m.kl m.lf m.ml (fx kd)->PlR kd b ps cs ks m->w.R (.cell 0) vb->w.R (.cell 6) vp->
 (∀(w0:Wd)(cd:Cd)(kids:iC),w0.σ=[]->w0.R (Cd.t cd (kids.map Cd.t0)) vp->mi cd->(∀k∈kids,mi k)->kids.length<=1000->Q w0.h)->bt du aG (n+10) 513 [vb,vp] w.h (λj h=>Q h) X
noncomputable def ac6{h:Hp}{b:Addr}{s:Bx}(k:∀a o,nU.lookup a=some o->h a=some o/\a≠b)(e:h b=some (.list (SH s)))(c:s.b.ct=0):Wd:=⟨h,⟨[b],[]⟩,[.bx s [] 1000000],by
 refine⟨λa o q=>⟨(k a o q).1,λm=>m.elim (λm=>(k a o q).2 (cI m)) n7⟩,List.nodup_cons.mpr ⟨n7,List.nodup_nil⟩,rfl,λa m=>(n7 m).elim,λa m=>(n7 m).elim,λi x q=>?_⟩
 cases i with
 |zero=>obtain rfl:=ar q;exact⟨b,rfl,by rw[e];exact⟨rfl,by rw[c];decide,trivial⟩⟩|succ i=>exact eA q⟩
noncomputable def ac7:S:=.cons (.ret (.lit (.bool false))) .nil
def aa3(op:CmpOp):E:=.cmp (.call (.glob (.ref 568)) sU) (.jz op AO .nil)
section
variable{sp:Spec}{h:Hp}{ρ:aS}{QQ:lM}{X:bA}{l:Addr}{ns:dN}{v0 v1 v2:Value}
def aa4(k:dD sp aG [v0] h (λv1 h1=>dD sp aG [v1] h1 (λv2 h2=>bH sp aG (tl 2 rC) [some v0,some v1,some v2] h2 QQ X) X 499) X 432):bH sp aG rC [some v0,none,none] h QQ X:=k
def Q1(sp:Spec)(QQ:lM)(X:bA)(fl:Fl)(h:Hp):Prop:=eZ fl (λρ'=>bH sp aG (tl 3 rC) ρ' h QQ X) λv=>QQ (.ret v) h
def QI(sp:Spec)(ρ:aS)(QQ:lM)(X:bA)(u:Value)(h:Hp):Prop:=dh u λb=>mO b (bH sp aG ac7 ρ h (Q1 sp QQ X) X) (bH sp aG .nil ρ h (Q1 sp QQ X) X)
def aa5(k:eB sp aG ρ AO h (λv h3=>Got (qR h3 .Is v .none) λb=>dh (.bool b) λb=>mO b (QI sp ρ QQ X (.bool true) h3) (eB sp aG ρ (aa3 .NotEq) h3 (QI sp ρ QQ X) X)) X):bH sp aG (tl 2 rC) ρ h QQ X:=k
def aa6(k:dD sp aG [v1,v2] h (λj h2=>eB sp aG [some v0,some v1,some v2] (aa3 .Eq) h2 (λv h3=>QQ (.ret v) h3) X) X 513):bH sp aG (tl 3 rC) [some v0,some v1,some v2] h QQ X:=k
def wd{w:Wd}{t:Tr}(r:w.R t v2):gR w (I7 t) [some v0,some v1,some v2]:=⟨rfl,λi x e=>by
 rcases i with _|_|_|i
 ·cases e
 ·cases e
 ·cases e;exact r
 ·exact eA e⟩
def aa7{w:Wd}{d:fy}{v:Value}(r:w.R (dT (some d)) v):qR w.h .Is v .none=some false:=kR (C:=λv=>qR w.h .Is v .none=some false) r λa j=>rfl
def Vz(B:I9)(hn:ns.length<=63)(hl:h l=some (.ro (ns.map int)))(kb:∀a o,nU.lookup a=some o->h a=some o):bt du aG 21 575 [.ref l] h (λv j=>v=.bool true) (λj=>False):=by
 refine⟨OU,rfl,aH 1,aH 1,aa4 (.fn rfl (Vy (n:=19) hl hn λh1 b s L1 eb hb c0=>?_))⟩;generalize hw:ac6 (h:=h1) (b:=b) (s:=s) (λa o q=>⟨L1 _ _ (kb a o q),λz=>aI eb (z▸kb a o q)⟩) hb c0=w;have sw:w.σ=[.bx s [] 1000000]:=by rw[<-hw];rfl
 have rb:w.R (.cell 0) (.ref b):=by rw[<-hw];exact rfl
 rw[show h1=w.h by rw[<-hw];rfl];refine .fn rfl (IZ (n:=8) sw aP rb λw2 v2 m kd b' ps cs ks L2 s2 r2 R=>?_);have kf:=bQ R.DV;have bd:=Oo R;have bk:∀k∈ks.map eY,mi k:=λk mk=>by
  obtain⟨q,mq,rfl⟩:=ja mk;exact wc (kf q mq)
 have lk:(ks.map eY).length<=1000:=by rw[au];exact aa R.lk aP
 have pv:=AR s2 r2;refine aa5 (ye (n:=13) (w:=w2.fz 0) (by show MN 0 w2.σ=[];rfl) (wd pv) bd bk λD hD w3 u L3 s3 r3=>?_);have ex:∀q∈ks,∃D,d8 (eY q) (fH 1 (eY q)) D:=λq mq=>by
  obtain⟨D,h1,_⟩:=AA (n:=0) (cd:=eY q) (kids:=[]) (out:=fH 1 (eY q)) (by unfold fH;cases(eY q).kind==cG<;>decide) (wc (kf q mq)) λj m=>qP m;exact⟨D,d8.to h1⟩
 cases D with
 |none=>exact(I6 R.seg R.hb R.kd R.DV ex hD rfl).elim|some d=>
  refine⟨false,aa7 r3,?_⟩;refine yf (n:=11) aaW s3 (wd (L3.R pv)) bd bk lk λw4 L4=>?_;obtain⟨w5,e5,s5,L5,f5⟩:=Wd.back (w:=w2) (L3.trans L4);refine(show bH (bt du aG 20) aG (tl 3 rC) [some (.ref l),some (.ref b),some v2] w4.h _ _ from ?_);rw[<-e5];refine aa6 (.fn rfl (B (n:=10) (w:=w5) (s5.trans s2) R ((L2.trans L5).R rb) (L5.R r2) λw6 cd kids s6 r6 bd6 bk6 lk6=>?_));exact yf (n:=11) Qq s6 (wd r6) bd6 bk6 lk6 λw7 L7=>rfl
end
def Qr:List bV:=[.none,.bool true,.str (k' "x"),.int (-1),.int 2,.tup (k' "child") (.int 0),.lst,.str (k' "pass"),.tup (k' "call") .none,.tup (k' "call") (AI 9)]
noncomputable def I':dN:=[1,-1,3,50]
noncomputable def Oq(r:Rw)(spot:Nat)(o:bV):Rw:=match spot with
 |0=>⟨r.op,o,r.b,r.c⟩
 |1=>⟨r.op,r.a,o,r.c⟩
 |_=>⟨r.op,r.a,r.b,o⟩
noncomputable def Ot(r:Rw)(spot:Nat):bV:=match spot with|0=>r.a|1=>r.b|_=>r.c
def Ou(r:Rw):Rw:=⟨k' "pusk",r.a,r.b,r.c⟩
def Cs(r:Rw)(spot more j' g9:Nat):Rw:=match j' with
 |0=>match Ot r spot with
  |.int i=>Oq r spot (.int (i+(I'[more]?).getD 0))|_=>Ou r
 |1=>Oq r spot (pk Qr g9)|_=>Ou r
def sV(r:Rw):ah:=[.val (str r.op),r.a.t,r.b.t,r.c.t]
noncomputable def Ov(spot more j' g9:Nat):bz:=[(3,(spot:Int)),(4,(more:Int)),(3,(j':Int)),(10,(g9:Int))]
noncomputable def qo(j':Nat):Nat:=match j' with|1=>4|_=>3
section
variable{n:Nat}{s:Bx}{l:Nat}{k:Nat}{r:Rw}{m1 m2 m3:Cn}
def o8(n:Nat)(s:Bx)(l k:Nat)(m1 m2 m3 m4 m5 m6:Cn)(r:Rw)(spot more j' g9:Nat):aw:=dW B1 (n+2) false 506 [.cell 0,.cell 7] [.bx s (Ov spot more j' g9) (l+qo j'),m1,m2,m3,m4,m5,m6,.buf none (sV r) k]
def o9(s:Bx)(l k:Nat)(m1 m2 m3 m4 m5 m6:Cn)(r:Rw)(spot more j' g9:Nat):aw:=some (.ret (.val .none) [.bx (s.adv ((Ov spot more j' g9).take (qo j'))) ((Ov spot more j' g9).drop (qo j')) l,m1,m2,m3,m4,m5,m6,.buf none (sV (Cs r spot more j' g9)) k])
variable{m4 m5 m6:Cn}{op:Str}{a b c:bV}
noncomputable def allB(f:Nat->Nat->Nat->aw):List (List (List aw)):=(List.range 4).map λmore=>(List.range 3).map λj'=>(List.range 10).map λg9=>f more j' g9
def VA:allB (o8 n s l k m1 m2 m3 m4 m5 m6 ⟨op,a,b,c⟩ 0)=allB (o9 s l k m1 m2 m3 m4 m5 m6 ⟨op,a,b,c⟩ 0):=by cases a<;>kernel_rfl
def VB:allB (o8 n s l k m1 m2 m3 m4 m5 m6 ⟨op,a,b,c⟩ 1)=allB (o9 s l k m1 m2 m3 m4 m5 m6 ⟨op,a,b,c⟩ 1):=by cases b<;>kernel_rfl
def VC:allB (o8 n s l k m1 m2 m3 m4 m5 m6 ⟨op,a,b,c⟩ 2)=allB (o9 s l k m1 m2 m3 m4 m5 m6 ⟨op,a,b,c⟩ 2):=by cases c<;>kernel_rfl
def we{f g:Nat->Nat->Nat->aw}(h:allB f=allB g){more j' g9:Nat}(h1:more∈List.range 4)(h2:j'∈List.range 3)(h3:g9∈List.range 10):f more j' g9=g more j' g9:=map_eq (map_eq (map_eq h h1:) h2:) h3
def ac8{spot more j' g9:Nat}(h0:spot∈List.range 3)(h1:more∈List.range 4)(h2:j'∈List.range 3)(h3:g9∈List.range 10):o8 n s l k m1 m2 m3 m4 m5 m6 ⟨op,a,b,c⟩ spot more j' g9=o9 s l k m1 m2 m3 m4 m5 m6 ⟨op,a,b,c⟩ spot more j' g9:=by
 have l:=pY h0;rcases spot with _|_|_|spot
 ·exact we VA h1 h2 h3
 ·exact we VB h1 h2 h3
 ·exact we VC h1 h2 h3
 ·exact(Nat.not_lt_zero _ (Nat.lt_of_succ_lt_succ (Nat.lt_of_succ_lt_succ (Nat.lt_of_succ_lt_succ l)))).elim
end
section
variable{r:Rw}{o:bV}{spot more j' g9:Nat}
def AS{a b c:bV}{op:Str}(h1:a.small=true)(h2:b.small=true)(h3:c.small=true):(Rw.mk op a b c).small=true:=by
 show(_&&(_&&(_&&true)))=true
 rw[h1,h2,h3];rfl
def Cu(h:r.gY=true)(ho:o.small=true):(Oq r spot o).small=true:=by
 have h:=aA h;have h2:=aA h.2;have h1:=mN h.1;have h3:=mN (aA h2.2).1;have h2:=mN h2.1;rcases spot with _|_|spot
 ·exact AS ho h2 h3
 ·exact AS h1 ho h3
 ·exact AS h1 h2 ho
def Ow(h:r.gY=true):(Ot r spot).gY=true:=by
 have h:=aA h;have h2:=aA h.2;rcases spot with _|_|spot
 ·exact h.1
 ·exact h2.1
 ·exact(aA h2.2).1
def Ox(h:r.gY=true)(h1:more∈List.range 4)(h3:g9∈List.range 10):(Cs r spot more j' g9).small=true:=by
 have p:(Ou r).small=true:=pW h;rcases j' with _|_|j'
 ·have g:=Ow (spot:=spot) h;show(match Ot r spot with|.int i=>Oq r spot (.int (i+(I'[more]?).getD 0))|_=>Ou r).small=true
  revert g
  cases Ot r spot with
  |int i=>exact λg=>Cu h (aZ (p:=Int.natAbs _<=1000000) (by
    have m:=cf (bQ (show((List.range 4).all λm=>decide (((I'[m]?).getD 0).natAbs<=50))=true by kernel_rfl) more h1);exact aa (Int.natAbs_add_le i _) (aa (cJ (cf (p:=i.natAbs<=999000) g) m) aP)))
  |_=>exact λj=>p
 ·exact Cu h (bQ (show((List.range 10).all λm=>(pk Qr m).small)=true by kernel_rfl) g9 h3)
 ·exact p
end
mutual
noncomputable def uA(L:Nat):Tr->Bool|.val _=>true|.cell _=>true|.tup ts=>nj L ts|.lst ts=> !(Nat.beq ts.length L)&&nj L ts|_=>false
noncomputable def nj(L:Nat):ah->Bool|[]=>true|t::ts=>uA L t&&nj L ts
end
section
variable{f:Fs}{h:Hp}{a:Addr}{xs ys:ai}{L:Nat}
def Oy{b:Addr}{vs:ai}(ha:h a=some (.list xs))(e:fJ (h b)=some vs)(n:vs≠xs):(h.set a (.list ys)) b=h b:=Hp.bj λz=>n (by
 subst z;rw[ha]at e;exact(ar e).symm)
def Oz{b:Addr}{vs:ai}(ha:h a=some (.list xs))(e:tG (h b)=some vs):(h.set a (.list ys)) b=h b:=Hp.bj λz=>by
 subst z;rw[ha]at e;exact eA e
mutual
theorem Ja(ha:h a=some (.list xs))(l:xs.length=L):∀(t:Tr){v:Value},uA L t=true->Rp f h t v->Rp f (h.set a (.list ys)) t v
 |.val _,_,_,r=>r|.cell _,_,_,r=>r|.tup ts,v,k,r=>bu r λb q=>⟨q.1,by
  cases q.2 with
  |mk vs e w=>exact⟨vs,by rw[Oz ha e];exact e,pa ha l ts k w⟩⟩
 |.lst ts,v,k,r=>bu r λb q=>⟨q.1,by
  cases q.2 with
  |mk vs e w=>
   have k:=aA k;refine⟨vs,?_,pa ha l ts k.2 w⟩;rw[Oy ha e λz=>?_]
   ·exact e
   ·have k1:=k.1;rw[show ts.length=L from(bw w).symm.trans (z▸l),Nat.beq_refl]at k1;exact iM k1⟩
 |.txt _,_,k,_=>iM k|.gY,_,k,_=>iM k|.any,_,k,_=>iM k|.app _,_,k,_=>iM k|.mV _ _,_,k,_=>iM k|.obj _ _ _,_,k,_=>iM k
theorem pa(ha:h a=some (.list xs))(l:xs.length=L):∀(ts:ah){vs:ai},nj L ts=true->jv f h ts vs->jv f (h.set a (.list ys)) ts vs|[],_,_,r=>r|t::ts,_,k,r=>gx r λj j q=>⟨Ja ha l t (aA k).1 q.1,pa ha l ts (aA k).2 q.2⟩
end
end
section
variable{f:Fs}{h:Hp}{a:Addr}
def wg(n:Nat)(o:bV):uA (n+2) o.t=true:=by
 induction o with
 |tup s o ih=>show(true&&(uA (n+2) o.t&&true))=true;rw[ih];rfl
 |_=>rfl
def OA(n:Nat)(r:Rw):nj (n+2) (sV r)=true:=by
 show(true&&(uA _ r.a.t&&(uA _ r.b.t&&(uA _ r.c.t&&true))))=true
 rw[wg,wg,wg];rfl
def Cv{α β:Type}{g:α->Tr}{g':β->Tr}{P:α->Prop}{P':β->Prop}{h':Hp}(k:∀x v,P x->Rp f h (g x) v->∃y,P' y/\Rp f h' (g' y) v):∀{ts:List α}{vs:ai},(∀x∈ts,P x)->jv f h (ts.map g) vs->∃us:List β,us.length=ts.length/\(∀x∈us,P' x)/\jv f h' (us.map g') vs:=by
 intro ts
 induction ts with
 |nil=>exact λj r=>⟨[],rfl,λj m=>(qP m),r⟩
 |cons t ts ih=>
  intro vs hp r
  cases vs with
  |nil=>exact r.elim|cons v vs=>
   obtain⟨y,py,ry⟩:=k t v (hp t (.head _)) r.1;obtain⟨us,l,pu,ru⟩:=ih (λx m=>hp x (.tail _ m)) r.2;exact⟨y::us,ak (·+1) l,λx m=>(fY m).elim (λe=>e▸py) (pu x),ry,ru⟩
end
section
variable{f:Fs}{h:Hp}{a:Addr}{ys xs:ai}
def VD{c c':Ct}{v:Value}(na:¬f.In a)(rn:jv f (h.set a (.list ys)) (Qk c') ys)(q:Rp f h c.t v):Rp f (h.set a (.list ys)) c.t v\/Rp f (h.set a (.list ys)) c'.t v:=by
 have q0:bp v λb=>¬f.In b/\Got (fJ (h b)) (jv f h (Qk c)):=q;refine kR (C:=λv=>Rp f (h.set a (.list ys)) c.t v\/Rp f (h.set a (.list ys)) c'.t v) q0 λb w=>?_;by_cases e:b=a
 ·subst e;exact .inr ⟨na,ys,by rw[Hp.set_same];rfl,rn⟩
 ·refine .inl ⟨w.1,?_⟩
  cases w.2 with
  |mk vs e1 w1=>exact⟨vs,by rw[Hp.bj e];exact e1,w1⟩
def OB(n:Nat)(r:Rw)(hn:n+2≠4):uA (n+2) r.t=true:=by
 show(!(Nat.beq 4 (n+2))&&nj (n+2) (sV r))=true
 rw[OA];cases z:Nat.beq 4 (n+2)with
 |true=>exact(hn (Nat.eq_of_beq_eq_true z).symm).elim|false=>rfl
def OC{k:Cd}{v:Value}{kd:Str}(ha:h a=some (.list xs))(l:xs.length=6)(bk:mi k)(ac9:nj 6 [.lst (k.rows.map Rw.t),.lst (k.cats.map Ct.t),.lst [],startT k.starts]=true)(q:Rp f h k.t0 v):
  ∃k',mi k'/\Rp f (h.set a (.list (xs.set 0 (str kd)))) k'.t0 v:=by
 have q0:bp v λb=>¬f.In b/\Got (fJ (h b)) (jv f h (.val (str k.kind)::.val (int 2)::[.lst (k.rows.map Rw.t),.lst (k.cats.map Ct.t),.lst [],startT k.starts])):=q;refine kR (C:=λv=>∃k':Cd,mi k'/\Rp f (h.set a (.list (xs.set 0 (str kd)))) k'.t0 v) q0 λb w=>?_
 cases w.2 with
 |mk vs e w1=>
  cases vs with|nil=>exact w1.elim|cons v0 vs=>
  cases vs with|nil=>exact w1.2.elim|cons v1 vs=>
  have rest:=pa (ys:=xs.set 0 (str kd)) ha l _ ac9 w1.2.2;by_cases z:b=a
  ·subst z;rw[ha]at e;obtain rfl:=ar e;have all:jv f (h.set b (.list (str kd::v1::vs))) [.val (str kd),.val (int 2),.lst (k.rows.map Rw.t),.lst (k.cats.map Ct.t),.lst [],startT k.starts] (str kd::v1::vs):=⟨⟨rfl,rfl⟩,w1.2.1,rest⟩
   exact⟨⟨kd,k.rows,k.cats,k.starts⟩,⟨bk.rows,bk.cats,bk.starts,bk.small,bk.startB,bk.cat⟩,w.1,str kd::v1::vs,by rw[show(v0::v1::vs).set 0 (str kd)=str kd::v1::vs from rfl,Hp.set_same];rfl,all⟩
  ·have all:jv f (h.set a (.list (xs.set 0 (str kd)))) [.val (str k.kind),.val (int 2),.lst (k.rows.map Rw.t),.lst (k.cats.map Ct.t),.lst [],startT k.starts] (v0::v1::vs):=⟨w1.1,w1.2.1,rest⟩
   exact⟨k,bk,w.1,v0::v1::vs,by rw[Hp.bj z];exact e,all⟩
end
def eS(y:Int)(kF:aT):bU:=[some (.cell 0),some (.cell 6),some (.val (int y)),some (.cell 1),some (.cell 2),kF,none]
section
variable{n l rl cl kl ml:Nat}{us cs ks:ah}{s:Bx}{kd:Str}{lf:Int}{σ:Sg}{kF:aT}
def ada{k:gZ}:(List.range 16).map (λy:Nat=>(i9 (n+1) false (aU 0 aN)).o [some (.cell 0),some (.cell 6),none,none,none,none,none] (dJ false s [(16,(y:Int))] (l+1) us cs ks rl cl kl lf ml (fx kd)) k)=(List.range 16).map λy:Nat=>k (eS y none) (dJ false (s.nx 16) [] l us cs ks rl cl kl lf ml (fx kd)):=aO
def aa8{k:gZ}:(List.range 6).map (λy:Nat=>(i9 n false (tl 2 aN)).s (eS y kF) σ k)=(List.range 6).map λy:Nat=>k (eS y kF) σ:=aO
noncomputable def posB(y:Nat):Nat:=match y with
 |8=>2|9=>3|10=>4|13=>6|14=>7|15=>8
 |_=>5
noncomputable def nI:aC:=[6,7,8,9,10,11,12,13,14,15]
def VE{k:gZ}:nI.map (λy:Nat=>(i9 n false (hd (posB y-2) (tl 2 aN))).s (eS y kF) σ k)=nI.map λy:Nat=>k (eS y kF) σ:=aO
def OD{k:gZ}{x6:aT}:nI.map (λy:Nat=>(i9 n false (tl (posB y+1) aN)).s [some (.cell 0),some (.cell 6),some (.val (int y)),some (.cell 1),some (.cell 2),kF,x6] σ k)=nI.map λy:Nat=>k [some (.cell 0),some (.cell 6),some (.val (int y)),some (.cell 1),some (.cell 2),kF,x6] σ:=aO
end
section
variable{n l rl cl kl ml:Nat}{us cs ks:ah}{s:Bx}{lf:Int}{ext:Sg}{d:Int}{y:Int}
def VF(h0:0<(us.length:Int))(h1:(us.length:Int)<=1000):B9 439 [.cell 0,.val (int (us.length:Int))] (dJ false s [((us.length:Int),d)] (l+1) us cs ks rl cl kl lf ml ext)=some (.ret (.val (int d)) (dJ false (s.nx us.length) [] l us cs ks rl cl kl lf ml ext)):=
 (av rfl).trans (av (⟨rfl,h0,h1⟩:(us.length:Int)=(us.length:Int)/\_))
def adb{k:gZ}(h0:0<(us.length:Int))(h1:(us.length:Int)<=1000):(i9 (n+1) false (aU 1 aN)).o (eS y none) (dJ false s [((us.length:Int),d)] (l+1) us cs ks rl cl kl lf ml ext) k=k (eS y (some (.val (int d)))) (dJ false (s.nx us.length) [] l us cs ks rl cl kl lf ml ext):=by
 refine(show _=(((B9 439 [.cell 0,.val (int (us.length:Int))] (dJ false s [((us.length:Int),d)] (l+1) us cs ks rl cl kl lf ml ext)).elim (sy (dW B1 n false) (dW B1 n true) false 439 [.cell 0,.val (int (us.length:Int))] (dJ false s [((us.length:Int),d)] (l+1) us cs ks rl cl kl lf ml ext)) some).bind vA).bind (λq=>k ((eS y none).set 5 (some q.1)) q.2) by kernel_rfl).trans ?_;rw[VF h0 h1];rfl
end
def nq(y:Int)(kF x6:aT):bU:=[some (.cell 0),some (.cell 6),some (.val (int y)),some (.cell 1),some (.cell 2),kF,x6]
def SmT(G:Nat->Tr)(t:Tr):Prop:=∃r:Rw,r.small=true/\sub G t=r.t
def aa9(s:Bx)(ds:bz)(l:Nat)(us cs ks:ah)(rl cl kl:Nat)(lf:Int)(ml:Nat)(c5:Cn)(kd:Str)(t5:Tr)(x:Nat)(ext:Sg):Sg:=
 .bx s ds l::.buf none us rl::.buf none cs cl::.buf none ks kl::.buf none (Jy lf) ml::c5::.buf none [.val (str kd),.val (int 2),.cell 1,.cell 2,.cell 3,t5] x::ext
inductive yh(y:Nat)(kF:aT)(vp:Value)(ρ:aS)(h:Hp):Prop
 |mk (w:Wd) (x6:aT) (s ds l us rl cl kl lf ml c5 t5 x ext) (cd:Cd) (kids:iC):w.h=h->w.σ=aa9 s ds l us (cd.cats.map Ct.t) (kids.map Cd.t0) rl cl kl lf ml c5 cd.kind t5 x ext->w.R (.cell 6) vp->gR w (nq y kF x6) ρ->us.length<=1000->(∀t∈us,SmT (wj 0 w.σ 1) t)->sub (wj 0 w.σ 2) t5=startT cd.starts->
  cd.cats.length<=1000->cd.starts.length<=1000->(∀s∈cd.starts,s<=1000000)->(∀k∈cd.cats,k.depth.natAbs<=1000000/\jo k.sort)->(∀k∈kids,mi k)->kids.length<=1000->yh y kF vp ρ h
section
variable{G:Nat->Tr}{w:Wd}{y n:Nat}{kF:aT}{vp:Value}{ρ:aS}{Q:bA}{h:Hp}
def OE:∀{us:ah},(∀t∈us,SmT G t)->∃rs:List Rw,rs.length=us.length/\(∀r∈rs,r.small=true)/\eE G us=rs.map Rw.t:=by
 intro us
 induction us with
 |nil=>exact λj=>⟨[],rfl,λj m=>(qP m),rfl⟩
 |cons t us ih=>
  intro h;obtain⟨r,sm,e⟩:=h t (.head _);obtain⟨rs,l,a,q⟩:=ih λt m=>h t (.tail _ m);exact⟨r::rs,ak (·+1) l,λx m=>(fY m).elim (λz=>z▸sm) (a x),by rw[List.map_cons,<-e,<-q];rfl⟩
def Jb(E:yh y kF vp ρ h)(K:∀(w0:Wd)(cd:Cd)(kids:iC),w0.σ=[]->w0.R (Cd.t cd (kids.map Cd.t0)) vp->mi cd->(∀k∈kids,mi k)->kids.length<=1000->Q w0.h):Q h:=by
 cases E with
 |mk w x6 s ds l us rl cl kl lf ml c5 t5 x ext cd kids eh e r6 R lu su e5 lc ls sb cb kb lk=>
  subst eh;obtain⟨rs,lr,sr,er⟩:=OE su;refine K (w.fz 0) ⟨cd.kind,rs,cd.cats,cd.starts⟩ kids (by show MN 0 w.σ=[];rfl) ?_ ⟨show rs.length<=1000 from lr▸lu,lc,ls,sr,sb,cb⟩ kb lk;have r:=Hk (n:=0) r6;rw[e]at r er e5;have:∀G G':Nat->Tr,eE G us=rs.map Rw.t->sub G' t5=startT cd.starts->Tr.lst [.val (str cd.kind),.val (int 2),.lst (eE G us),.lst (eE G (cd.cats.map Ct.t)),.lst (eE G (kids.map Cd.t0)),sub G' t5]=Cd.t ⟨cd.kind,rs,cd.cats,cd.starts⟩ (kids.map Cd.t0):=λG G' a b=>by
   rw[a,b,n5,fN (f:=Cd.t0) λk=>?_]
   ·rfl
   ·show Tr.lst [_,_,.lst (eE G (k.rows.map Rw.t)),.lst (eE G (k.cats.map Ct.t)),.lst [],.lst (eE G (k.starts.map λs:Nat=>.val (int s)))]=_
    rw[fN (f:=Rw.t) λr=>pV r,n5,fN (f:=λs:Nat=>Tr.val (int s)) λj=>rfl];rfl
  exact(this _ _ er e5)▸r
end
def Jc(z:Nat):Rw:=match z with
 |0=>j9 "pop"|1=>j9 "dup"|2=>gA "push" 5
 |_=>j9 "leave"
def jr(i:Nat):aT:=some (.val (int (i:Int)))
noncomputable def OF(i len:Nat)(z:Nat):aC:=match z with
 |0=>[]|1=>[i]|2=>[0,i]
 |_=>[len]
section
variable{n l rl cl kl ml i:Nat}{us cs ks:ah}{s:Bx}{kd:Str}{lf:Int}{ext:Sg}{ds:bz}{t x:Tr}
def ade{k:gZ}:(i9 n false (aU 2 aN)).o (eS 8 (jr i)) (dJ false s [] l us cs ks rl cl kl lf ml ext) k=((Pr (i:Int) (.buf none us rl)).map λq=>(q.1,(dJ false s [] l us cs ks rl cl kl lf ml ext).set 1 q.2)).bind λq=>k (eS 8 (jr i)) q.2:=aO
def adf{k:gZ}:(List.range 4).map (λz:Nat=>(i9 (n+2) false (aU 3 aN)).o (eS 9 (jr i)) (dJ false s [(4,(z:Int))] (l+1) us cs ks rl cl kl lf ml ext) k)=(List.range 4).map λz:Nat=>(TJ (TA (dJ false (s.nx 4) [] l us cs ks rl cl kl lf ml ext) (.cell 1) (i:Int) (Jc z).t)).bind λq=>k (eS 9 (jr i)) q.2:=aO
def aba{k:gZ}:(i9 n false (aU 4 aN)).o (eS 10 (jr i)) (dJ false s [] l us cs ks rl cl kl lf ml ext) k=bif decide ((i:Int)>0)then((fq (dJ false s [] l us cs ks rl cl kl lf ml ext) (.cell 1) (.val (int (i:Int)))).bind λx=>(fq (dJ false s [] l us cs ks rl cl kl lf ml ext) (.cell 1) (.val (int ((i:Int)-1)))).bind λy=>(sh (dJ false s [] l us cs ks rl cl kl lf ml ext) (.cell 1) (.val (int ((i:Int)-1))) x).bind λσ=>(sh σ (.cell 1) (.val (int (i:Int))) y).bind λσ=>k (eS 10 (jr i)) σ)else k (eS 10 (jr i)) (dJ false s [] l us cs ks rl cl kl lf ml ext):=aO
def abb{k:gZ}:(List.range 4).map (λz:Nat=>(i9 (n+2) false (aU 7 aN)).o (eS 14 (jr i)) (dJ false s [(4,(z:Int))] (l+1) us cs ks rl cl kl lf ml (fx kd)) k)=(List.range 4).map λz:Nat=>k (eS 14 (jr i)) (dJ false (s.nx 4) [] l us cs ks rl cl kl lf ml [fT [.val (int 0)],fT [.val (str kd),.val (int 2),.cell 1,.cell 2,.cell 3,startT (OF i us.length z)]]):=aO
def wh(h:us[i]? =some t):fq (dJ false s ds l us cs ks rl cl kl lf ml ext) (.cell 1) (.val (int (i:Int)))=some t:=by
 have l:=(dO h).1;show(if 0<=(i:Int)then(if(i:Int)<(us.length:Nat)then some (i:Int).toNat else none)else _:Option Nat).bind (us[·]?)=_
 rw[av (d9 i),av (Int.ofNat_lt.mpr l)];exact h
def AU(h:i<us.length):sh (dJ false s ds l us cs ks rl cl kl lf ml ext) (.cell 1) (.val (int (i:Int))) x=some (dJ false s ds l (us.set i x) cs ks rl cl kl lf ml ext):=by
 show((if 0<=(i:Int)/\(i:Int)<(us.length:Nat)then some (Cn.buf none (us.set (i:Int).toNat x) rl)else none)).map _=_
 rw[av ⟨d9 i,Int.ofNat_lt.mpr h⟩];rfl
end
structure BF(rows:List Rw)(cs:e9)(ks:List (Str×Int)):Prop where
 lr:rows.length<=999
 sm:∀r∈rows,r.gY=true
 lc:cs.length<=1000
 cat:∀c∈cs,(0<=c.depth/\c.depth<=2)/\jo c.sort
 DV:∀q∈ks,q∈sT
 lk:ks.length<=1000
def BK(y:Nat)(kF:aT)(vp:Value)(QQ:lM):Prop:=∀ρ h,yh y kF vp ρ h->QQ (.next ρ) h
section
variable{w:Wd}{rows:List Rw}{cs:e9}{ks:List (Str×Int)}{n l rl cl kl ml i x:Nat}{us:ah}{s:Bx}{kd:Str}{lf:Int}{ext:Sg}{kF x6:aT}{ds:bz}{c5:Cn}{t5:Tr}{y:Nat}{vp:Value}{ρ:aS}{QQ:lM}{X:bA}{G:Nat->Tr}{starts:aC}
def OG{d:Int}(h:0<=d/\d<=2):d.natAbs<=2:=eU.mp ((Int.natAbs_of_nonneg h.1).symm▸h.2)
def BF.cats(F:BF rows cs ks):∀k∈cs,k.depth.natAbs<=1000000/\jo k.sort:=λk m=>⟨aa (OG (F.cat k m).1) aP,(F.cat k m).2⟩
def BF.vT(F:BF rows cs ks):∀k∈ks.map eY,mi k:=λk m=>by
 obtain⟨q,mq,rfl⟩:=ja m;exact wc (bQ (show sT.all D0=true by kernel_rfl) q (F.DV q mq))
def BF.iB(F:BF rows cs ks):∀t∈rows.map Rw.t,SmT G t:=λt m=>by
 obtain⟨r,mr,rfl⟩:=ja m;exact⟨r,pW (F.sm r mr),pV r⟩
def wi(F:BF rows cs ks)(e:w.σ=aa9 s ds l us (cs.map Ct.t) (ks.map dM) rl cl kl lf ml c5 kd t5 x ext)(r6:w.R (.cell 6) vp)(R:gR w (nq y kF x6) ρ)(lu:us.length<=1000)(su:∀t∈us,SmT (wj 0 w.σ 1) t)(e5:sub (wj 0 w.σ 2) t5=startT starts)(ls:starts.length<=1000)(sb:∀s∈starts,s<=1000000):yh y kF vp ρ w.h:=
 ⟨w,x6,s,ds,l,us,rl,cl,kl,lf,ml,c5,t5,x,ext,⟨kd,[],cs,starts⟩,ks.map eY,rfl,by rw[<-AQ];exact e,r6,R,lu,su,e5,F.lc,ls,sb,F.cats,F.vT,by rw[au];exact F.lk⟩
def k9(F:BF rows cs ks)(e:w.σ=dJ false s ds l us (cs.map Ct.t) (ks.map dM) rl cl kl lf ml (fx kd))(r6:w.R (.cell 6) vp)(R:gR w (nq y kF x6) ρ)(lu:us.length<=1000)(su:∀t∈us,SmT (wj 0 w.σ 1) t):yh y kF vp ρ w.h:=
 wi (starts:=[0]) F (c5:=fT [.val (int 0)]) (t5:=.cell 5) (ext:=[]) e r6 R lu su (by rw[e];rfl) aP λs m=>by rw[cI m];exact bO _
def abc(F:BF rows cs ks)(hi:i<rows.length)(e:w.σ=dJ false s [] l (rows.map Rw.t) (cs.map Ct.t) (ks.map dM) rl cl kl lf ml (fx kd))(r6:w.R (.cell 6) vp)(R:gR w (eS 8 (jr i)) ρ)(K:BK 8 (jr i) vp QQ):wpS (bt du aG n) aG (aU 2 aN) ρ w.h QQ X:=by
 have C:=a9 cq n false;have D:=a9 cq n true;have l1:i<(rows.map Rw.t).length:=by rw[au];exact hi
 refine nh (ρ1:=nq (8:Nat) (jr i) none) (σ:=dJ false s [] l ((rows.map Rw.t).eraseIdx i) (cs.map Ct.t) (ks.map dM) rl cl kl lf ml (fx kd)) (cF C D false _).o R (λk=>(ak (λσ=>(i9 n false (aU 2 aN)).o _ σ k) e).trans (ade.trans ?_)) λw1 ρ1 L1 s1 R1=>K _ _ (k9 F s1 (L1.R r6) R1 (aa (List.length_eraseIdx_le _ i) (by rw[au];exact hP F.lr)) λt m=>F.iB t (List.mem_of_mem_eraseIdx m));show(((if 0<=(i:Int)then((rows.map Rw.t)[(i:Int).toNat]?).map λt=>(t,Cn.buf none ((rows.map Rw.t).eraseIdx (i:Int).toNat) rl)else none)).map _).bind _=_
 rw[av (d9 i),Int.toNat_natCast,bN l1];rfl
def my(b:Bw)(v:Nat)(h:Nat.blt 0 v=true):∃z,z∈List.range v/\Yl b [((v:Int),((z:Nat):Int))]:=by
 obtain⟨x,ds,md,yl,_⟩:=ip (ms:=[(v,true)]) b (by show(Nat.blt 0 v&&true)=true;rw[h];rfl);obtain⟨d,hd,q⟩:=List.mem_flatMap.mp md;obtain rfl:=cI q;exact⟨d,hd,yl⟩
def OH:((List.range 4).all λz=>(Jc z).small)=true:=aO
def abd(F:BF rows cs ks)(hi:i<rows.length)(e:w.σ=dJ false s [] (l+1) (rows.map Rw.t) (cs.map Ct.t) (ks.map dM) (rl+1) cl kl lf ml (fx kd))(r6:w.R (.cell 6) vp)(R:gR w (eS 9 (jr i)) ρ)(K:BK 9 (jr i) vp QQ):wpS (bt du aG (n+2)) aG (aU 3 aN) ρ w.h QQ X:=by
 have C:=a9 cq (n+2) false;have D:=a9 cq (n+2) true;have l0:(rows.map Rw.t).length=rows.length:=au _;have l1:=F.lr;obtain⟨z,hz,yl⟩:=my s.b 4 rfl;refine nh (w:=w.gh _ e yl) (ρ1:=nq (9:Nat) (jr i) none) (σ:=dJ false (s.nx 4) [] l ((rows.map Rw.t).insertIdx i (Jc z).t) (cs.map Ct.t) (ks.map dM) rl cl kl lf ml (fx kd)) (cF C D false _).o ⟨R.1,R.2⟩ (λk=>(map_eq (adf (n:=n)) hz).trans ?_) λw1 ρ1 L1 s1 R1=>K _ _ (k9 F s1 (L1.R (show(w.gh _ e yl).R (.cell 6) vp from r6)) R1 (aa (List.length_insertIdx_le_succ) (by rw[l0];exact Nat.succ_le_succ l1)) λt m=>((List.mem_insertIdx (cM (l0▸hi))).mp m).elim (λq=>q▸⟨Jc z,bQ OH z hz,pV _⟩) (F.iB t));show(((if 0<rl+1/\0<=(i:Int)/\(i:Int)<=((rows.map Rw.t).length:Nat)then some (Cn.buf none ((rows.map Rw.t).insertIdx (i:Int).toNat (Jc z).t) (rl+1-1))else none).map _).map _).bind _=_
 rw[av ⟨Nat.succ_pos _,d9 i,by rw[l0];exact eU.mpr (cM hi)⟩];rfl
def VG(F:BF rows cs ks)(hi:i<rows.length)(e:w.σ=dJ false s [] l (rows.map Rw.t) (cs.map Ct.t) (ks.map dM) rl cl kl lf ml (fx kd))(r6:w.R (.cell 6) vp)(R:gR w (eS 10 (jr i)) ρ)(K:BK 10 (jr i) vp QQ):wpS (bt du aG n) aG (aU 4 aN) ρ w.h QQ X:=by
 have C:=a9 cq n false;have D:=a9 cq n true;have l0:(rows.map Rw.t).length=rows.length:=au _;have l1:=F.lr;have e1:=λk=>(ak (λσ=>(i9 n false (aU 4 aN)).o (eS 10 (jr i)) σ k) e).trans aba
 cases i with
 |zero=>exact nh (ρ1:=nq (10:Nat) (jr 0) none) (cF C D false _).o R e1 λw1 ρ1 L1 s1 R1=>K _ _ (k9 F s1 (L1.R r6) R1 (by rw[l0];exact hP l1) F.iB)|succ j=>
  have h1:j<(rows.map Rw.t).length:=by rw[l0];exact Nat.lt_of_succ_lt hi
  have h2:j+1<(rows.map Rw.t).length:=by rw[l0];exact hi
  refine nh (ρ1:=nq (10:Nat) (jr (j+1)) none) (σ:=dJ false s [] l (((rows.map Rw.t).set j (rows.map Rw.t)[j+1]).set (j+1) (rows.map Rw.t)[j]) (cs.map Ct.t) (ks.map dM) rl cl kl lf ml (fx kd)) (cF C D false _).o R (λk=>(e1 k).trans ?_) λw1 ρ1 L1 s1 R1=>K _ _ (k9 F s1 (L1.R r6) R1 (by rw[eJ,eJ,l0];exact hP l1) λt m=>?_)
  ·rw[show decide (((j+1:Nat):Int)>0)=true from aZ (Int.ofNat_lt.mpr (Nat.succ_pos j)),show((j+1:Nat):Int)-1=(j:Int)from Int.add_sub_cancel (j:Int) 1,wh (bN h1),wh (bN h2)];exact(ak (Option.bind · _) (AU h1)).trans (ak (Option.bind · _) (AU (by rw[eJ];exact h2)))
  ·exact(List.mem_or_eq_of_mem_set m).elim (λm=>(List.mem_or_eq_of_mem_set m).elim (F.iB t) λq=>F.iB t (q▸List.getElem_mem h2)) λq=>F.iB t (q▸List.getElem_mem h1)
def OI{i len z:Nat}(hi:i<=1000000)(hl:len<=1000000):∀s∈OF i len z,s<=1000000:=λs m=>by
 rcases z with _|_|_|z
 ·cases m
 ·exact cI m▸hi
 ·exact(fY m).elim (λe=>e▸bO _) λm=>cI m▸hi
 ·exact cI m▸hl
def VH(F:BF rows cs ks)(hi:i<rows.length)(e:w.σ=dJ false s [] (l+1) (rows.map Rw.t) (cs.map Ct.t) (ks.map dM) rl cl kl lf ml (fx kd))(r6:w.R (.cell 6) vp)(R:gR w (eS 14 (jr i)) ρ)(K:BK 14 (jr i) vp QQ):wpS (bt du aG (n+2)) aG (aU 7 aN) ρ w.h QQ X:=by
 have C:=a9 cq (n+2) false;have D:=a9 cq (n+2) true;have l0:(rows.map Rw.t).length=rows.length:=au _;have l1:=F.lr;obtain⟨z,hz,yl⟩:=my s.b 4 rfl;refine nh (w:=w.gh _ e yl) (ρ1:=nq (14:Nat) (jr i) none) (cF C D false _).o ⟨R.1,R.2⟩ (λk=>map_eq (abb (n:=n)) hz) λw1 ρ1 L1 s1 R1=>K _ _ (wi (starts:=OF i (rows.map Rw.t).length z) F (c5:=fT [.val (int 0)]) (ext:=[]) s1 (L1.R (show(w.gh _ e yl).R (.cell 6) vp from r6)) R1 (by rw[l0];exact hP l1) F.iB (ak Tr.lst (fN (f:=λs:Nat=>Tr.val (int s)) λj=>rfl)) ?_ ?_)
 ·unfold OF;split<;>exact bg rfl
 ·exact OI (aa (cM hi) (aa l1 aP)) (by rw[l0];exact aa l1 aP)
end
noncomputable def OJ:E:=.cons (.idx (.loc 3) (.loc 5)) .nil
noncomputable def tgR:T:=.idx (.loc 3) (.loc 5)
noncomputable def Jd:E:=.cons (.loc 0) (.cons (.idx (.loc 3) (.loc 5)) .nil)
section
variable{n l rl cl kl ml i y:Nat}{us cs ks:ah}{s:Bx}{lf:Int}{ext σ:Sg}{kF:aT}{ds:bz}{x:Tr}{sp:Spec}{ρ:aS}{h:Hp}{QQ:lM}{X:bA}
def VI(k:eB sp aG ρ (jP (aU 5 aN)) h (λv h1=>dh v λb'=>mO b' (fP sp aG ρ OJ h1 (λvs h2=>p0 "list" vs h2 λv h3=>Qv sp aG tgR v ρ h3 λρ1 h4=>fP sp aG ρ1 Jd h4 (λvs h5=>dD sp aG vs h5 (λj h6=>QQ (.next ρ1) h6) X 506) X) X) (QQ (.next ρ) h1)) X):wpS sp aG (aU 5 aN) ρ h QQ X:=k
def adg{k:Ko}:[6,7,11,12].map (λy:Nat=>(gz (dW B1 n false) (dW B1 n true) (jP (aU 5 aN))).e (eS y kF) σ k)=[6,7,11,12].map λy:Nat=>k (.val (.bool true)) σ:=aO
def adh{k:ah->Sg->aw}{y:Int}:(gz (dW B1 n false) (dW B1 n true) OJ).s (eS y (jr i)) (dJ false s ds l us cs ks rl cl kl lf ml ext) k=(fq (dJ false s ds l us cs ks rl cl kl lf ml ext) (.cell 1) (.val (int (i:Int)))).bind λx=>k [x] (dJ false s ds l us cs ks rl cl kl lf ml ext):=aO
def adi{k:ah->Sg->aw}{y:Int}:(gz (dW B1 n false) (dW B1 n true) Jd).s (eS y (jr i)) (dJ false s ds l us cs ks rl cl kl lf ml ext) k=(fq (dJ false s ds l us cs ks rl cl kl lf ml ext) (.cell 1) (.val (int (i:Int)))).bind λx=>k [.cell 0,x] (dJ false s ds l us cs ks rl cl kl lf ml ext):=aO
def adj{k:gZ}{y:Int}{x:Tr}:BU (gz (dW B1 n false) (dW B1 n true) (.loc 3)).e (gz (dW B1 n false) (dW B1 n true) (.loc 5)).e x (eS y (jr i)) (dJ false s ds l us cs ks rl cl kl lf ml ext) k=(sh (dJ false s ds l us cs ks rl cl kl lf ml ext) (.cell 1) (.val (int (i:Int))) x).bind λσ=>k (eS y (jr i)) σ:=aO
end
def abe(n:Nat)(QQ:lM)(X:bA)(ρ:aS)(h:Hp):Prop:=fP (bt du aG n) aG ρ Jd h (λvs h5=>dD (bt du aG n) aG vs h5 (λj h6=>QQ (.next ρ) h6) X 506) X
section
variable{w:Wd}{rows:List Rw}{cs:e9}{ks:List (Str×Int)}{n l rl cl kl ml i:Nat}{us:ah}{s:Bx}{kd:Str}{lf:Int}{x6:aT}{y:Nat}{vp:Value}{ρ:aS}{QQ:lM}{X:bA}{r:Rw}
def abf(hy:y∈[6,7,11,12])(hr:rows[i]? =some r)(e:w.σ=dJ false s [] l (rows.map Rw.t) (cs.map Ct.t) (ks.map dM) rl cl kl lf ml (fx kd))(R:gR w (eS y (jr i)) ρ)
  (K:∀w' ρ',w.Le w'->w'.σ=dJ false s [] l ((rows.map Rw.t).set i (.cell 7)) (cs.map Ct.t) (ks.map dM) rl cl kl lf ml (fx kd++[Cn.buf none (sV r) 5])->gR w' (eS y (jr i)) ρ'->abe n QQ X ρ' w'.h):wpS (bt du aG n) aG (aU 5 aN) ρ w.h QQ X:=by
 have C:=a9 cq n false;have D:=a9 cq n true;have hi:i<(rows.map Rw.t).length:=by rw[au];exact(dO hr).1
 have ht:(rows.map Rw.t)[i]? =some r.t:=by rw[cy,hr];rfl
 refine VI (mY (dv C D _).e R (λk=>map_eq adg hy) λw1 v L1 s1 rv=>?_);rw[rv.1];refine qe (dv C D OJ).s (bo L1 R) (λk=>(ak (λσ=>(gz (dW B1 n false) (dW B1 n true) OJ).s _ σ k) (s1.trans e)).trans (adh.trans (ak (Option.bind · _) (wh ht)))) λw2 vs L2 s2 rs=>?_
 cases vs with|nil=>exact rs.elim|cons v vs=>
 cases vs with|cons _ _=>exact rs.2.elim|nil=>
 refine .list rfl (show bp v _ from kR (C:=λv=>bp v _) (show bp v λb=>¬w2.f.In b/\Got (fJ (w2.h b)) (w2.L (sV r))from rs.1) λb q=>?_)
 cases q.2 with
 |mk us m ru=>
  refine⟨us,jm _ _ m,λa ea=>?_⟩;have rc:iP w2.f w2.h (.buf none (sV r) 5) (some (.list us)):=⟨us,rfl,us,rfl,ru,by rw[bw ru];exact bg rfl⟩
  have L3:=w2.jG ea rc;have s3:(w2.cell _ ea rc).σ=dJ false s [] l (rows.map Rw.t) (cs.map Ct.t) (ks.map dM) rl cl kl lf ml (fx kd++[Cn.buf none (sV r) 5]):=ak (·++[Cn.buf none (sV r) 5]) s2;have ra:=w2.oS ea rc;rw[s2]at ra;have R3:=bo ((L1.trans L2).trans L3) R;exact PJ (dv C D (.loc 3)).e (dv C D (.loc 5)).e ⟨w2.cell _ ea rc,_,ρ,.mark,R3⟩ (.cell 7) (.ref a) (Ju (eS y (jr i)) (dJ false s [] l ((rows.map Rw.t).set i (.cell 7)) (cs.map Ct.t) (ks.map dM) rl cl kl lf ml (fx kd++[Cn.buf none (sV r) 5]))) _ ((ak (λσ=>BU _ _ (.cell 7) (eS y (jr i)) σ _) s3).trans (adj.trans ((ak (Option.bind · _) (AU hi)).trans (lZ (eS y (jr i)) (dJ false s [] l ((rows.map Rw.t).set i (.cell 7)) (cs.map Ct.t) (ks.map dM) rl cl kl lf ml (fx kd++[Cn.buf none (sV r) 5])))))) ra λw4 ρt ρ4 L4 R4 q=>Ah (w:=w2.cell _ ea rc) (Q:=abe n QQ X) (λw' ρ' L s R=>K w' ρ' (((L1.trans L2).trans L3).trans L) s R) L4 R4 q
def Je(j':Nat):qo j'<=4:=by
 rcases j' with _|_|j'
 ·exact bg rfl
 ·exact aH 4
 ·exact bg rfl
def Cw(hy:y∈[6,7,11,12])(F:BF rows cs ks)(hi:i<rows.length)(e:w.σ=dJ false s [] (l+4) (rows.map Rw.t) (cs.map Ct.t) (ks.map dM) rl cl kl lf ml (fx kd))(r6:w.R (.cell 6) vp)(R:gR w (eS y (jr i)) ρ)(K:BK y (jr i) vp QQ):wpS (bt du aG (n+2)) aG (aU 5 aN) ρ w.h QQ X:=by
 have C:=a9 cq (n+2) false;have D:=a9 cq (n+2) true;have l0:(rows.map Rw.t).length=rows.length:=au _;have hs:((rows.map Rw.t).set i (.cell 7))[i]? =some (.cell 7):=List.getElem?_set_self (by rw[l0];exact hi);refine abf hy (bN hi) e R λw4 ρ4 L4 s4 R4=>qe (dv C D Jd).s R4 (λk=>(ak (λσ=>(gz (dW B1 (n+2) false) (dW B1 (n+2) true) Jd).s _ σ k) s4).trans (adi.trans (ak (Option.bind · _) (wh hs)))) λw5 vs L5 s5 rs=>.fn rfl ?_
 cases vs with|nil=>exact rs.elim|cons v0 vs=>
 cases vs with|nil=>exact rs.2.elim|cons v7 vs=>
 cases vs with|cons _ _=>exact rs.2.2.elim|nil=>
 obtain⟨spot,h0,y0⟩:=my s.b 3 rfl;obtain⟨more,h1,y1⟩:=my (s.b.pL (3:Nat)) 4 rfl;obtain⟨j',h2,y2⟩:=my ((s.b.pL (3:Nat)).pL (4:Nat)) 3 rfl;obtain⟨g9,h3,y3⟩:=my (((s.b.pL (3:Nat)).pL (4:Nat)).pL (3:Nat)) 10 rfl;have yl:Yl s.b (Ov spot more j' g9):=⟨y0.1,y1.1,y2.1,y3.1,trivial⟩
 have hl:(l+4-qo j')+qo j'=l+4:=eM (aa (Je j') (cY 4 l));have run:=ac8 (n:=n) (s:=s) (l:=l+4-qo j') (k:=5) (m1:=.buf none ((rows.map Rw.t).set i (.cell 7)) rl) (m2:=.buf none (cs.map Ct.t) cl) (m3:=.buf none (ks.map dM) kl) (m4:=.buf none (Jy lf) ml) (m5:=fT [.val (int 0)]) (m6:=fT [.val (str kd),.val (int 2),.cell 1,.cell 2,.cell 3,.cell 5]) (op:=rows[i].op) (a:=rows[i].a) (b:=rows[i].b) (c:=rows[i].c) h0 h1 h2 h3;unfold o8 at run;rw[hl]at run;obtain⟨o,eo⟩:∃o,o9 s (l+4-qo j') 5 (.buf none ((rows.map Rw.t).set i (.cell 7)) rl) (.buf none (cs.map Ct.t) cl) (.buf none (ks.map dM) kl) (.buf none (Jy lf) ml) (fT [.val (int 0)]) (fT [.val (str kd),.val (int 2),.cell 1,.cell 2,.cell 3,.cell 5]) ⟨rows[i].op,rows[i].a,rows[i].b,rows[i].c⟩ spot more j' g9=some o:=⟨_,rfl⟩
 have E:Kq (w5.gh _ s5 yl) o (λj h=>QQ (.next ρ4) h) X:=⟨λt σ e6 w6 v L6 s6 rv=>by
  subst e6;injection ar eo with e1 e2
  have s6:=s6.trans e2.symm;have L:w.Le w6:=(L4.trans L5).trans (show w5.Le w6 from L6);refine K _ _ (wi (starts:=[0]) (x6:=none) F s6 (L.R r6) (bo (L5.trans (show w5.Le w6 from L6)) R4) (by rw[eJ,l0];exact aa F.lr aP) (λt m=>(List.mem_or_eq_of_mem_set m).elim (F.iB t) λq=>?_) (by rw[s6];rfl) aP λs m=>by rw[cI m];exact bO _);exact q▸⟨Cs rows[i] spot more j' g9,Ox (F.sm _ (List.getElem_mem hi)) h1 h3,by rw[s6];exact pV (Cs rows[i] spot more j' g9)⟩,λz=>by subst z;exact nomatch(show some (Out.ret _ _)=some .bad from eo)⟩
 exact(a9 (λj=>vU) (n+2) false).fn (w:=w5.gh _ s5 yl) rfl (run.trans eo) ⟨rs.1,rs.2.1,trivial⟩ E.1 E.2
end
def VJ:(nU.all λp=>(fJ (some p.2)).isNone)=true:=aO
def abg{a:Addr}{o:MO}(e:nU.lookup a=some o):fJ (some o)=none:=by
 obtain⟨l,r,q,_⟩:=List.lookup_eq_some_iff.mp e;exact Option.isNone_iff_eq_none.mp (bQ VJ (a,o) (by rw[q];exact fC l (.head r)))
section
variable{w:Wd}{a:Addr}{xs ys:ai}{L n l rl cl kl ml i:Nat}{us cs ks cs' ks':ah}{s:Bx}{kd:Str}{lf:Int}{ds:bz}
def Wd.adk(w:Wd){a:Addr}{xs:ai}(ys:ai)(σ:Sg)(ha:w.h a=some (.list xs))(na:¬w.f.In a)(ln:σ.length=w.σ.length)(cv:∀(i:Nat) c,σ[i]? =some c->Got w.f.l[i]? λb=>iP w.f (w.h.set a (.list ys)) c (w.h b)):Wd:=⟨w.h.set a (.list ys),w.f,σ,by
 refine⟨λb o q=>⟨(Hp.bj λz=>?_).trans (w.ok.k b o q).1,(w.ok.k b o q).2⟩,w.ok.nd,w.ok.ln.trans ln.symm,λb m z=>?_,w.ok.zn,λi c q=>?_⟩
 ·have e:=(w.ok.k b o q).1;rw[z,ha]at e;exact nomatch(ak fJ e).trans (abg q)
 ·by_cases y:b=a
  ·rw[y,Hp.set_same]at z;exact zSN z
  ·exact w.ok.zs b m ((Hp.bj y).symm.trans z)
 ·cases cv i c q with|mk b e r=>exact⟨b,e,by rw[Hp.bj λz:b=a=>na (.inl (z▸kS e))];exact r⟩⟩
def AV{ts:ah}{o:cj}(ha:w.h a=some (.list xs))(lx:xs.length=L)(k:nj L ts=true)(r:iP w.f w.h (.buf none ts l) o):iP w.f (w.h.set a (.list ys)) (.buf none ts l) o:=Got.imp r (λj=>id) λj b=>b.imp λus=>pa ha lx ts k
def abh{P:Nat->Cn->Prop}{a b c d e f g:Cn}(h0:P 0 a)(h1:P 1 b)(h2:P 2 c)(h3:P 3 d)(h4:P 4 e)(h5:P 5 f)(h6:P 6 g):∀i x,[a,b,c,d,e,f,g][i]? =some x->P i x:=Ca h0 h1 h2 h3 h4 λi x q=>by
 rcases i with _|_|i
 ·obtain rfl:=ar q;exact h5
 ·obtain rfl:=ar q;exact h6
 ·exact eA q
def Cx{env:bU}{ρ:aS}{w':Wd}(ha:w.h a=some (.list xs))(lx:xs.length=L)(eh:w'.h=w.h.set a (.list ys))(ef:w'.f=w.f)(k:∀t,some t∈env->uA L t=true)(R:gR w env ρ):gR w' env ρ:=⟨R.1,λi t e=>nX (R.2 i t e) λv r=>by
 show Rp w'.f w'.h t v
 rw[eh,ef];exact Ja ha lx t (k t (List.mem_of_getElem? e)) r⟩
def Qs(e:w.σ=dJ false s ds l us cs ks rl cl kl lf ml (fx kd))(ha:w.h a=some (.list xs))(na:¬w.f.In a)(lx:xs.length=L)(fu:nj L us=true)(hc:Got w.f.l[2]? λb=>iP w.f (w.h.set a (.list ys)) (.buf none cs' cl) (w.h b))(hk:Got w.f.l[3]? λb=>iP w.f (w.h.set a (.list ys)) (.buf none ks' kl) (w.h b)):
  ∃w':Wd,w'.h=w.h.set a (.list ys)/\w'.f=w.f/\w'.σ=dJ false s ds l us cs' ks' rl cl kl lf ml (fx kd):=by
 have W:=w.ok;rw[e]at W;have go:∀{i:Nat}{ts:ah}{n:Nat},nj L ts=true->(Got w.f.l[i]? λb=>iP w.f w.h (.buf none ts n) (w.h b))->Got w.f.l[i]? λb=>iP w.f (w.h.set a (.list ys)) (.buf none ts n) (w.h b):=λk g=>g.imp (λj=>id) λb r=>AV ha lx k r;exact⟨w.adk ys (dJ false s ds l us cs' ks' rl cl kl lf ml (fx kd)) ha na (by rw[e];rfl) (abh (P:=λi c=>Got w.f.l[i]? λb=>iP w.f (w.h.set a (.list ys)) c (w.h b)) (W.c 0 _ rfl) (go fu (W.c 1 _ rfl)) hc hk (go rfl (W.c 4 _ rfl)) (go rfl (W.c 5 _ rfl)) (go rfl (W.c 6 _ rfl))),rfl,rfl,rfl⟩
end
noncomputable def Jf(more:Nat):Int:=match more with
 |0=>1|1=>-1|2=>2
 |_=>40
def yi(c:Ct)(spot more:Nat):Ct:=match spot with
 |0=>⟨kY,c.first,c.last,c.target,c.depth⟩
 |1=>⟨c.sort,c.first+Jf more,c.last,c.target,c.depth⟩
 |2=>⟨c.sort,c.first,c.last+Jf more,c.target,c.depth⟩
 |3=>⟨c.sort,c.first,c.last,c.target+Jf more,c.depth⟩
 |_=>⟨c.sort,c.first,c.last,c.target,c.depth+Jf more⟩
def yj(c:Ct)(spot more:Nat):Value:=match spot with|0=>str kY|1=>int (c.first+Jf more)|2=>int (c.last+Jf more)|3=>int (c.target+Jf more)|_=>int (c.depth+Jf more)
def abi:S:=uG (aU 6 aN)
def D6:E:=.ite (.cmp (.loc 6) (.jz .Eq (.lit (int 0)) .nil)) (.lit (str kY)) (.bin .Add (.idx (.idx (.loc 4) (.lit (int 0))) (.loc 6)) (.idx (.list (.cons (.lit (int 1)) (.cons (.neg (.lit (int 1))) (.cons (.lit (int 2)) (.cons (.lit (int 40)) .nil))))) (.call (.glob (.ref 439)) (.cons (.loc 0) (.cons (.lit (int 4)) .nil)))))
def c0E:E:=.idx (.loc 4) (.lit (int 0))
def spT(spot:Nat):aT:=some (.val (int (spot:Int)))
section
variable{n l rl cl kl ml i:Nat}{us cs ks:ah}{s:Bx}{lf:Int}{ext σ:Sg}{kF:aT}{ds:bz}{t x:Tr}{sp:Spec}{ρ:aS}{h:Hp}{QQ:lM}{X:bA}{c:Ct}
def Jg(k:eB sp aG ρ (jP (aU 6 aN)) h (λv h1=>dh v λb'=>mO b' (wpS sp aG (aU 0 abi) ρ h1 (λfl h2=>eZ fl (λρ2=>eB sp aG ρ2 D6 h2 (λv h3=>eB sp aG ρ2 c0E h3 (λw h4=>eB sp aG ρ2 (.loc 6) h4 (λj h5=>bp w λx=>gG j (gL v h5 (λh=>QQ (.next ρ2) h) x) (jV v h5 (λh=>QQ (.next ρ2) h) x) λJ=>False) λJ=>False) λJ=>False) X) λv=>QQ (.ret v) h2) X) (QQ (.next ρ) h1)) X):wpS sp aG (aU 6 aN) ρ h QQ X:=k
def abj{k:Ko}:(gz (dW B1 n false) (dW B1 n true) (jP (aU 6 aN))).e (eS 13 kF) (dJ false s ds l us [] ks rl cl kl lf ml ext) k=k (.val (.bool false)) (dJ false s ds l us [] ks rl cl kl lf ml ext):=aO
def VK{k:Ko}:(gz (dW B1 n false) (dW B1 n true) (jP (aU 6 aN))).e (eS 13 kF) (dJ false s ds l us (t::cs) ks rl cl kl lf ml ext) k=k (.val (.bool true)) (dJ false s ds l us (t::cs) ks rl cl kl lf ml ext):=aO
def adl{k:gZ}:(List.range 5).map (λz:Nat=>(i9 (n+2) false (aU 0 abi)).o (eS 13 kF) (dJ false s [(5,(z:Int))] (l+1) us cs ks rl cl kl lf ml ext) k)=(List.range 5).map λz:Nat=>k (nq 13 kF (spT z)) (dJ false (s.nx 5) [] l us cs ks rl cl kl lf ml ext):=aO
def adm{k:Ko}:(gz (dW B1 (n+2) false) (dW B1 (n+2) true) D6).e (nq 13 kF (spT 0)) (dJ false s ds l us cs ks rl cl kl lf ml ext) k=k (.val (str kY)) (dJ false s ds l us cs ks rl cl kl lf ml ext):=aO
def adn{k:Ko}:[1,2,3,4].map (λz:Nat=>(List.range 4).map λm:Nat=>(gz (dW B1 (n+2) false) (dW B1 (n+2) true) D6).e (nq 13 kF (spT z)) (dJ false s [(4,(m:Int))] (l+1) us cs ks rl cl kl lf ml ext) k)=[1,2,3,4].map λz:Nat=>(List.range 4).map λm:Nat=>(fq (dJ false s [(4,(m:Int))] (l+1) us cs ks rl cl kl lf ml ext) (.cell 2) (.val (int 0))).bind λx=>(fq (dJ false s [(4,(m:Int))] (l+1) us cs ks rl cl kl lf ml ext) x (.val (int (z:Int)))).bind λy=>(mX (dJ false (s.nx 4) [] l us cs ks rl cl kl lf ml ext) .Add y (.val (int (Jf m)))).bind λx=>k x (dJ false (s.nx 4) [] l us cs ks rl cl kl lf ml ext):=aO
def ado{z:Nat}{k:Ko}:(gz (dW B1 n false) (dW B1 n true) c0E).e (nq 13 kF (spT z)) (dJ false s ds l us cs ks rl cl kl lf ml ext) k=(fq (dJ false s ds l us cs ks rl cl kl lf ml ext) (.cell 2) (.val (int 0))).bind λx=>k x (dJ false s ds l us cs ks rl cl kl lf ml ext):=aO
def Qt:fq (dJ false s ds l us (t::cs) ks rl cl kl lf ml ext) (.cell 2) (.val (int 0))=some t:=by
 show(if 0<=(0:Int)then(if(0:Int)<((t::cs).length:Nat)then some (0:Int).toNat else none)else _:Option Nat).bind ((t::cs)[·]?)=_
 rw[av (et 0),av (show(0:Int)<((t::cs).length:Nat)from Int.ofNat_lt.mpr (Nat.succ_pos _))];rfl
def adp{σ τ:Sg}{k:Ko}:[1,2,3,4].map (λz:Nat=>(fq σ c.t (.val (int (z:Int)))).bind λy=>(mX τ .Add y (.val (int (Jf i)))).bind λx=>k x τ)=[1,2,3,4].map λz:Nat=>k (.val (yj c z i)) τ:=aO
def VL:(List.range 5).map (λz=>(Qk c).set z (.val (yj c z i)))=(List.range 5).map λz=>Qk (yi c z i):=aO
def Jh{spot more:Nat}(h:(0<=c.depth/\c.depth<=2)/\jo c.sort):(yi c spot more).depth.natAbs<=1000000/\jo (yi c spot more).sort:=by
 have d:c.depth.natAbs<=1000000:=aa (OG h.1) aP;have m:(Jf more).natAbs<=40:=by rcases more with _|_|_|more<;>exact bg rfl
 rcases spot with _|_|_|_|spot
 ·exact⟨d,.inl rfl⟩
 ·exact⟨d,h.2⟩
 ·exact⟨d,h.2⟩
 ·exact⟨d,h.2⟩
 ·exact⟨aa (Int.natAbs_add_le _ _) (aa (cJ (OG h.1) m) aP),h.2⟩
end
def OK:(sT.all λq=>uA 5 (dM q))=true:=aO
def yk{n:Nat}(hn:n+2≠4)(rows:List Rw):nj (n+2) (rows.map Rw.t)=true:=by
 induction rows with
 |nil=>rfl|cons r rs ih=>exact(ak (·&&nj (n+2) (rs.map Rw.t)) (OB n r hn)).trans ih
def Ji{ks:List (Str×Int)}(h:∀q∈ks,q∈sT):nj 5 (ks.map dM)=true:=by
 induction ks with
 |nil=>rfl|cons q ks ih=>exact(ak (·&&nj 5 (ks.map dM)) (bQ OK q (h q (.head _)))).trans (ih λq m=>h q (.tail _ m))
section
variable{w:Wd}{rows:List Rw}{cs:e9}{ks:List (Str×Int)}{n l rl cl kl ml i:Nat}{s:Bx}{kd:Str}{lf:Int}{vp:Value}{ρ:aS}{QQ:lM}{X:bA}{c:Ct}{ds:bz}{spot more:Nat}
def OL(hs:spot∈List.range 5)(F:BF rows (c::cs) ks)(e:w.σ=dJ false s ds l (rows.map Rw.t) ((c::cs).map Ct.t) (ks.map dM) rl cl kl lf ml (fx kd))(r6:w.R (.cell 6) vp)(R:gR w (nq 13 (jr i) (spT spot)) ρ)(K:BK 13 (jr i) vp QQ){v4 v3:Value}(r4:w.R c.t v4)(r3:w.R (.val (yj c spot more)) v3):bp v4 λx=>gL v3 w.h (λh=>QQ (.next ρ) h) x spot:=by
 have W:=w.ok;rw[e]at W;refine kR (C:=λv=>bp v λx=>gL v3 w.h (λh=>QQ (.next ρ) h) x spot) (show bp v4 λb=>¬w.f.In b/\Got (fJ (w.h b)) (w.L (Qk c))from r4) λa q=>?_
 cases q.2 with
 |mk xs m rx=>
  have ha:=eN m;have na:=q.1;have lx:xs.length=5:=bw rx;have rs:w.L ((Qk c).set spot (.val (yj c spot more))) (xs.set spot v3):=Bl r3 rx;rw[map_eq (VL (c:=c) (i:=more)) hs]at rs;have rn:jv w.f (w.h.set a (.list (xs.set spot v3))) (Qk (yi c spot more)) (xs.set spot v3):=rs
  cases W.c 2 _ rfl with
  |mk b eb rc=>cases rc with
   |mk vs m2 bb=>cases bb with
    |mk us ev ru ln=>
     obtain⟨ya,l2,p2,r2⟩:=Cv (g:=Ct.t) (g':=Ct.t) (h':=w.h.set a (.list (xs.set spot v3))) (P':=λk=>k.depth.natAbs<=1000000/\jo k.sort) (λx v (px:(0<=x.depth/\x.depth<=2)/\jo x.sort) q=>(VD na rn q).elim (λq=>⟨x,⟨aa (OG px.1) aP,px.2⟩,q⟩) λq=>⟨yi c spot more,Jh (F.cat c (.head _)),q⟩) F.cat ru;obtain⟨w6,eh,ef,s6⟩:=Qs (ys:=xs.set spot v3) (cs':=ya.map Ct.t) (ks':=ks.map dM) e ha q.1 lx (yk (n:=3) aP rows) ⟨b,eb,vs,m2,us,ev,r2,ln⟩ ((W.c 3 _ rfl).imp (λj=>id) λb r=>AV ha lx (Ji F.DV) r);refine⟨xs,ha,d9 _,by rw[lx];exact Int.ofNat_lt.mpr (pY hs),K _ _ ⟨w6,spT spot,_,_,_,_,_,_,_,_,_,fT [.val (int 0)],.cell 5,_,[],⟨kd,[],ya,[0]⟩,ks.map eY,eh,by rw[<-AQ];exact s6,?_,Cx ha lx eh ef ?_ R,?_,F.iB,by rw[s6];rfl,?_,show 1<=1000 by decide,λs m=>by rw[cI m];exact bO _,p2,F.vT,by rw[au];exact F.lk⟩⟩
     ·show Rp w6.f w6.h (.cell 6) vp
      rw[ef];exact r6
     ·intro t m;simp only[nq,spT,jr,eV,Option.some.injEq,dS,or_false]at m;rcases m with rfl|rfl|rfl|rfl|rfl|rfl|rfl<;>rfl
     ·rw[au];exact aa F.lr aP
     ·show ya.length<=1000
      rw[l2];exact F.lc
def VM(F:BF rows cs ks)(e:w.σ=dJ false s [] (l+2) (rows.map Rw.t) (cs.map Ct.t) (ks.map dM) rl cl kl lf ml (fx kd))(r6:w.R (.cell 6) vp)(R:gR w (eS 13 (jr i)) ρ)(K:BK 13 (jr i) vp QQ):wpS (bt du aG (n+2)) aG (aU 6 aN) ρ w.h QQ X:=by
 have C:=a9 cq (n+2) false;have D:=a9 cq (n+2) true
 cases cs with
 |nil=>
  refine Jg (mY (dv C D _).e R (λk=>(ak (λσ=>(gz (dW B1 (n+2) false) (dW B1 (n+2) true) (jP (aU 6 aN))).e _ σ k) e).trans abj) λw1 v L1 s1 rv=>?_);rw[rv.1];exact K _ _ (k9 (x6:=none) F s1 (L1.R r6) (bo L1 R) (by rw[au];exact aa F.lr aP) F.iB)
 |cons c cs=>
  refine Jg (mY (dv C D _).e R (λk=>(ak (λσ=>(gz (dW B1 (n+2) false) (dW B1 (n+2) true) (jP (aU 6 aN))).e _ σ k) e).trans VK) λw1 v L1 s1 rv=>?_);rw[rv.1];obtain⟨spot,hs,y0⟩:=my s.b 5 rfl;have R1:=bo L1 R;refine nh (w:=w1.gh _ s1 y0) (cF C D false _).o ⟨R1.1,R1.2⟩ (λk=>map_eq (adl (n:=n)) hs) λw2 ρ2 L2 s2 R2=>?_;have L12:w.Le w2:=L1.trans (show w1.Le w2 from L2);have go:∀{more:Nat}(w3:Wd) v3 {s3 ds3 l3},w2.Le w3->w3.σ=dJ false s3 ds3 l3 (rows.map Rw.t) ((c::cs).map Ct.t) (ks.map dM) rl cl kl lf ml (fx kd)->w3.R (.val (yj c spot more)) v3->eB (bt du aG (n+2)) aG ρ2 c0E w3.h (λw h4=>eB (bt du aG (n+2)) aG ρ2 (.loc 6) h4 (λj h5=>bp w λx=>gG j (gL v3 h5 (λh=>QQ (.next ρ2) h) x) (jV v3 h5 (λh=>QQ (.next ρ2) h) x) λJ=>False) λJ=>False) λJ=>False:=λ{more} w3 v3 {s3 ds3 l3} L3 s3' r3=>by
   have R3:=bo L3 R2;refine mY (dv C D c0E).e R3 (λk=>(ak (λσ=>(gz (dW B1 (n+2) false) (dW B1 (n+2) true) c0E).e _ σ k) s3').trans (ado.trans (ak (Option.bind · _) Qt))) λw4 v4 L4 s4 r4=>mY (dv C D (.loc 6)).e (bo L4 R3) (t:=.val (int (spot:Int))) (σ:=w4.σ) (λk=>rfl) λw5 v5 L5 s5 r5=>?_;rw[r5.1];exact OL hs F (s5.trans s4) ((((L12.trans L3).trans L4).trans L5).R r6) (bo (L4.trans L5) R3) K (L5.R r4) ((L4.trans L5).R r3)
  have r:=pY hs;rcases spot with _|spot
  ·exact mY (dv C D D6).e R2 (λk=>(ak (λσ=>(gz (dW B1 (n+2) false) (dW B1 (n+2) true) D6).e _ σ k) s2).trans adm) λw3 v3 L3 s3 r3=>go (more:=0) w3 v3 L3 s3 r3
  ·have h4:spot+1∈[1,2,3,4]:=List.contains_iff_mem.mp (show([1,2,3,4].contains (spot+1))=true from bQ (show((List.range 5).all λy=>Nat.beq y 0||[1,2,3,4].contains y)=true by kernel_rfl) (spot+1) hs);obtain⟨more,hm,y1⟩:=my (s.nx 5).b 4 rfl;exact mY (w:=w2.gh _ s2 y1) (dv C D D6).e ⟨R2.1,R2.2⟩ (λk=>(map_eq (map_eq (adn (n:=n)) h4:) hm).trans ((ak (Option.bind · _) Qt).trans (map_eq (adp (i:=more)) h4))) λw3 v3 L3 s3 r3=>go w3 v3 (show w2.Le w3 from L3) s3 r3
end
def VN:E:=.idx (.list (.cons (.lit (str (k' "method"))) (.cons (.lit (str (k' "block"))) (.cons (.lit (str (k' "class"))) (.cons (.lit (str (k' "lambda"))) .nil))))) (.call (.glob (.ref 439)) (.cons (.loc 0) (.cons (.lit (int 4)) .nil)))
def k0E:E:=.idx (.idx (.loc 1) (.lit (int 4))) (.lit (int 0))
def abk(z:Nat):Str:=match z with
 |0=>k' "method"|1=>k' "block"|2=>k' "class"
 |_=>k' "lambda"
section
variable{n l rl cl kl ml:Nat}{us cs ks:ah}{s:Bx}{kd:Str}{lf:Int}{ext:Sg}{kF:aT}{ds:bz}{t x:Tr}{sp:Spec}{ρ:aS}{h:Hp}{QQ:lM}{X:bA}
def Jj(k:eB sp aG ρ (jP (aU 8 aN)) h (λv h1=>dh v λb'=>mO b' (eB sp aG ρ VN h1 (λv h3=>eB sp aG ρ k0E h3 (λw h4=>eB sp aG ρ (.lit (int 0)) h4 (λj h5=>bp w λx=>gG j (gL v h5 (λh=>QQ (.next ρ) h) x) (jV v h5 (λh=>QQ (.next ρ) h) x) λJ=>False) λJ=>False) λJ=>False) X) (QQ (.next ρ) h1)) X):wpS sp aG (aU 8 aN) ρ h QQ X:=k
def abl{k:Ko}:(gz (dW B1 n false) (dW B1 n true) (jP (aU 8 aN))).e (eS 15 kF) (dJ false s ds l us cs [] rl cl kl lf ml (fx kd)) k=k (.val (.bool false)) (dJ false s ds l us cs [] rl cl kl lf ml (fx kd)):=aO
def VO{k:Ko}:(gz (dW B1 n false) (dW B1 n true) (jP (aU 8 aN))).e (eS 15 kF) (dJ false s ds l us cs (t::ks) rl cl kl lf ml (fx kd)) k=k (.val (.bool true)) (dJ false s ds l us cs (t::ks) rl cl kl lf ml (fx kd)):=aO
def adq{k:Ko}:(List.range 4).map (λm:Nat=>(gz (dW B1 (n+2) false) (dW B1 (n+2) true) VN).e (eS 15 kF) (dJ false s [(4,(m:Int))] (l+1) us cs ks rl cl kl lf ml ext) k)=(List.range 4).map λm:Nat=>k (.val (str (abk m))) (dJ false (s.nx 4) [] l us cs ks rl cl kl lf ml ext):=aO
def adt{k:Ko}:(gz (dW B1 n false) (dW B1 n true) k0E).e (eS 15 kF) (dJ false s ds l us cs ks rl cl kl lf ml (fx kd)) k=(fq (dJ false s ds l us cs ks rl cl kl lf ml (fx kd)) (.cell 3) (.val (int 0))).bind λx=>k x (dJ false s ds l us cs ks rl cl kl lf ml (fx kd)):=aO
def abm:fq (dJ false s ds l us cs (t::ks) rl cl kl lf ml ext) (.cell 3) (.val (int 0))=some t:=by
 show(if 0<=(0:Int)then(if(0:Int)<((t::ks).length:Nat)then some (0:Int).toNat else none)else _:Option Nat).bind ((t::ks)[·]?)=_
 rw[av (et 0),av (show(0:Int)<((t::ks).length:Nat)from Int.ofNat_lt.mpr (Nat.succ_pos _))];rfl
end
def Jk:(sT.all λq=>nj 6 [.lst ((eY q).rows.map Rw.t),.lst ((eY q).cats.map Ct.t),.lst [],startT (eY q).starts])=true:=aO
def Jl(cs:e9):nj 6 (cs.map Ct.t)=true:=by
 induction cs with
 |nil=>rfl|cons c cs ih=>exact ih
section
variable{w:Wd}{rows:List Rw}{cs:e9}{ks:List (Str×Int)}{n l rl cl kl ml i:Nat}{s:Bx}{kd:Str}{lf:Int}{vp:Value}{ρ:aS}{QQ:lM}{X:bA}{q0:Str×Int}{ds:bz}{kz:Str}
def OM(F:BF rows cs (q0::ks))(e:w.σ=dJ false s ds l (rows.map Rw.t) (cs.map Ct.t) ((q0::ks).map dM) rl cl kl lf ml (fx kd))(r6:w.R (.cell 6) vp)(R:gR w (nq 15 (jr i) none) ρ)(K:BK 15 (jr i) vp QQ){v4:Value}(r4:w.R (dM q0) v4):bp v4 λx=>gL (str kz) w.h (λh=>QQ (.next ρ) h) x 0:=by
 have W:=w.ok;rw[e]at W;refine kR (C:=λv=>bp v λx=>gL (str kz) w.h (λh=>QQ (.next ρ) h) x 0) (show bp v4 λb=>¬w.f.In b/\Got (fJ (w.h b)) (w.L [_,_,_,_,_,_])from r4) λa q=>?_
 cases q.2 with
 |mk xs m rx=>
  have ha:=eN m;have na:=q.1;have lx:xs.length=6:=bw rx
  cases W.c 3 _ rfl with
  |mk b eb rc=>cases rc with
   |mk vs m2 bb=>cases bb with
    |mk us ev ru ln=>
     obtain⟨uh,l2,p2,r2⟩:=Cv (g:=dM) (g':=Cd.t0) (h':=w.h.set a (.list (xs.set 0 (str kz)))) (P:=λq=>q∈sT) (P':=mi) (λx v px q=>OC ha lx (wc (bQ (show sT.all D0=true by kernel_rfl) x px)) (bQ Jk x px) q) F.DV ru;obtain⟨w6,eh,ef,s6⟩:=Qs (ys:=xs.set 0 (str kz)) (cs':=cs.map Ct.t) (ks':=uh.map Cd.t0) e ha na lx (yk (n:=4) aP rows) ((W.c 2 _ rfl).imp (λj=>id) λb r=>AV ha lx (Jl cs) r) ⟨b,eb,vs,m2,us,ev,r2,ln⟩;refine⟨xs,ha,et 0,by rw[lx];decide,K _ _ ⟨w6,none,_,_,_,_,_,_,_,_,_,fT [.val (int 0)],.cell 5,_,[],⟨kd,[],cs,[0]⟩,uh,eh,s6,?_,Cx ha lx eh ef ?_ R,?_,F.iB,by rw[s6];rfl,F.lc,show 1<=1000 by decide,λs m=>by rw[cI m];exact bO _,F.cats,p2,l2▸F.lk⟩⟩
     ·show Rp w6.f w6.h (.cell 6) vp
      rw[ef];exact r6
     ·intro t m;simp only[nq,jr,eV,Option.some.injEq,dS,or_false,reduceCtorEq]at m;rcases m with rfl|rfl|rfl|rfl|rfl|rfl<;>rfl
     ·rw[au];exact aa F.lr aP
def VP(F:BF rows cs ks)(e:w.σ=dJ false s [] (l+1) (rows.map Rw.t) (cs.map Ct.t) (ks.map dM) rl cl kl lf ml (fx kd))(r6:w.R (.cell 6) vp)(R:gR w (eS 15 (jr i)) ρ)(K:BK 15 (jr i) vp QQ):wpS (bt du aG (n+2)) aG (aU 8 aN) ρ w.h QQ X:=by
 have C:=a9 cq (n+2) false;have D:=a9 cq (n+2) true
 cases ks with
 |nil=>
  refine Jj (mY (dv C D _).e R (λk=>(ak (λσ=>(gz (dW B1 (n+2) false) (dW B1 (n+2) true) (jP (aU 8 aN))).e _ σ k) e).trans abl) λw1 v L1 s1 rv=>?_);rw[rv.1];exact K _ _ (k9 (x6:=none) F s1 (L1.R r6) (bo L1 R) (by rw[au];exact aa F.lr aP) F.iB)
 |cons q0 ks=>
  refine Jj (mY (dv C D _).e R (λk=>(ak (λσ=>(gz (dW B1 (n+2) false) (dW B1 (n+2) true) (jP (aU 8 aN))).e _ σ k) e).trans VO) λw1 v L1 s1 rv=>?_);rw[rv.1];obtain⟨z,hz,yl⟩:=my s.b 4 rfl;have R1:=bo L1 R;refine mY (w:=w1.gh _ s1 yl) (dv C D VN).e ⟨R1.1,R1.2⟩ (λk=>map_eq (adq (n:=n)) hz) λw3 v3 L3 s3 r3=>?_;have L13:w1.Le w3:=L3;have R3:=bo L13 R1;refine mY (dv C D k0E).e R3 (λk=>(ak (λσ=>(gz (dW B1 (n+2) false) (dW B1 (n+2) true) k0E).e _ σ k) s3).trans (adt.trans (ak (Option.bind · _) abm))) λw4 v4 L4 s4 r4=>?_;rw[r3.1];exact OM F s4 (((L1.trans L13).trans L4).R r6) (bo L4 R3) K r4
end
section
variable{sp:Spec}{w:Wd}{ρ:aS}{h:Hp}{QQ:lM}{X:bA}{y n i l:Nat}{kF:aT}{vp:Value}{rows:List Rw}{cs:e9}{ks:List (Str×Int)}{s:Bx}{kd:Str}{lf:Int}{rl cl kl ml b:Nat}{ps:Ps}{m:Ma}
def VQ(k:wpS sp aG (aU 0 aN) ρ h (λfl h1=>eZ fl (λρ1=>wpS sp aG (aU 1 aN) ρ1 h1 (λfl h2=>eZ fl (λρ2=>bH sp aG (tl 2 aN) ρ2 h2 QQ X) λv=>QQ (.ret v) h2) X) λv=>QQ (.ret v) h1) X):bH sp aG aN ρ h QQ X:=k
def QP(sp:Spec)(y:Nat)(QQ:lM)(X:bA)(fl:Fl)(h:Hp):Prop:=eZ fl (λρ1=>bH sp aG (tl (posB y+1) aN) ρ1 h QQ X) λv=>QQ (.ret v) h
def VR(hy:y∈nI)(k:bH sp aG (hd (posB y-2) (tl 2 aN)) ρ h (λfl h'=>eZ fl (λρ'=>wpS sp aG (aU (posB y) aN) ρ' h' (QP sp y QQ X) X) λv=>QQ (.ret v) h') X):bH sp aG (tl 2 aN) ρ h QQ X:=by
 simp only[nI,eV,dS,or_false]at hy;rcases hy with rfl|rfl|rfl|rfl|rfl|rfl|rfl|rfl|rfl|rfl<;>exact k
def ON(hy:y∈nI)(K:BK y kF vp QQ):BK y kF vp (QP (bt du aG n) y QQ X):=λρ h E=>by
 cases E with
 |mk w x6 s ds l us rl cl kl lf ml c5 t5 x ext cd kids eh e r6 R lu su e5 lc ls sb cb kb lk=>
  subst eh;exact l6 (cF (a9 cq n false) (a9 cq n true) false (tl (posB y+1) aN)).s R (λk=>map_eq OD hy) λw1 ρ1 L1 s1 R1=>K ρ1 w1.h ⟨w1,x6,s,ds,l,us,rl,cl,kl,lf,ml,c5,t5,x,ext,cd,kids,rfl,s1.trans e,L1.R r6,R1,lu,s1▸su,s1▸e5,lc,ls,sb,cb,kb,lk⟩
def OO(hy:y∈List.range 16)(F:BF rows cs ks)(hi:i<rows.length)(e:w.σ=dJ false s [] (l+4) (rows.map Rw.t) (cs.map Ct.t) (ks.map dM) (rl+1) cl kl lf ml (fx kd))(r6:w.R (.cell 6) vp)(R:gR w (eS y (jr i)) ρ)(K:BK y (jr i) vp QQ):bH (bt du aG (n+2)) aG (tl 2 aN) ρ w.h QQ X:=by
 have C:=a9 cq (n+2) false;have D:=a9 cq (n+2) true;by_cases y6:y<6
 ·exact l6 (cF C D false (tl 2 aN)).s R (λk=>map_eq aa8 (List.mem_range.mpr y6)) λw1 ρ1 L1 s1 R1=>K _ _ (k9 (x6:=none) F (s1.trans e) (L1.R r6) R1 (by rw[au];exact aa F.lr aP) F.iB)
 ·have yw:y∈nI:=by
   have q:=bQ (show((List.range 16).all λy=>Nat.blt y 6||nI.contains y)=true by kernel_rfl) y hy;exact(gg _ _▸q).elim (λz=>(y6 (bg z)).elim) List.contains_iff_mem.mp
  have P:BK y (jr i) vp (QP (bt du aG (n+2)) y QQ X):=ON yw K;refine VR yw (l6 (cF C D false _).s R (λk=>map_eq VE yw) λw1 ρ1 L1 s1 R1=>?_);have s1:=s1.trans e;have r6:=L1.R r6;simp only[nI,eV,dS,or_false]at yw;rcases yw with rfl|rfl|rfl|rfl|rfl|rfl|rfl|rfl|rfl|rfl
  ·exact Cw aP F hi s1 r6 R1 P
  ·exact Cw aP F hi s1 r6 R1 P
  ·exact abc F hi s1 r6 R1 P
  ·exact abd F hi s1 r6 R1 P
  ·exact VG F hi s1 r6 R1 P
  ·exact Cw aP F hi s1 r6 R1 P
  ·exact Cw aP F hi s1 r6 R1 P
  ·exact VM F s1 r6 R1 P
  ·exact VH F hi s1 r6 R1 P
  ·exact VP F s1 r6 R1 P
def OP(r:PlR kd b ps cs ks m):BF (dH kd b ps cs).rows cs ks/\0<(dH kd b ps cs).rows.length:=by
 have l:(dH kd b ps cs).rows.length=b+ps.length+2:=by
  have:=ak List.length (AP (kd:=kd) (b:=b) (ps:=ps) (cs:=cs));rw[au]at this;rw[<-this];unfold qm rows0;rw[aE,aE,List.length_replicate,jO];rfl
 have h1:=r.lr;have h2:=r.hb;exact⟨⟨l▸aa (hV (cJ h2 h1) 2) aP,yg r,aa r.lc aP,λc mc=>by
  cases r.seg.cats c mc with
  |mk s x y t hs _ _ _=>exact⟨⟨d9 b,eU.mpr h2⟩,.inr hs⟩,λq mq=>Vu (bQ r.DV q mq),aa r.lk aP⟩,l▸Nat.succ_pos _⟩
end
def OQ:I9:=by
 intro n w m kd b ps cs ks vb vp Q X e P r0 r6 K;have C:=a9 cq (n+9) false;have D:=a9 cq (n+9) true;obtain⟨F,pos⟩:=OP P;rw[AP (kd:=kd) (cs:=cs)]at e;generalize(dH kd b ps cs).rows=rows at F pos e;have l1:=F.lr;have l0:(rows.map Rw.t).length=rows.length:=au _;obtain⟨l,hl⟩:∃l,m.l=l+4+1+1:=⟨m.l-6,(eM (aa (show 6<=15 by decide) P.has.l)).symm⟩
 obtain⟨rl,hr⟩:∃rl,m.rl=rl+1:=⟨m.rl-1,(eM (aa (show 1<=15 by decide) P.has.r)).symm⟩
 rw[hl,hr]at e;obtain⟨y,hy,y0⟩:=my m.s.b 16 rfl;obtain⟨i,hi,y1⟩:=my (m.s.nx 16).b (rows.map Rw.t).length (Nat.ble_eq_true_of_le (by rw[l0];exact pos));have hi:i<rows.length:=l0▸pY hi;have R0:gR w [some (.cell 0),some (.cell 6),none,none,none,none,none] (args ot [vb,vp]):=kX (F:=ot) (ts:=[.cell 0,.cell 6]) rfl ⟨r0,r6,trivial⟩;refine⟨ot,rfl,aH 2,aH 2,VQ (nh (w:=w.gh _ e y0) (cF C D false _).o ⟨R0.1,R0.2⟩ (λk=>map_eq (ada (n:=n+8)) hy) λw1 ρ1 L1 s1 R1=>nh (w:=w1.gh _ s1 y1) (cF C D false _).o ⟨R1.1,R1.2⟩ (λk=>adb (n:=n+8) (by rw[l0];exact Int.ofNat_lt.mpr pos) (by rw[l0];exact eU.mpr (hP l1))) λw2 ρ2 L2 s2 R2=>?_)⟩;have L:w.Le w2:=(show w.Le w1 from L1).trans (show w1.Le w2 from L2);exact OO (n:=n+7) hy F hi s2 (L.R r6) R2 λρ h E=>Jb E K
end fG
namespace fG
open PySem
def Jn:vt:=λl ns h hn hl hk=>⟨21,by decide,Vz OQ hn hl λa o e=>hk (a,o) (kA e)⟩
end fG
end
theorem PySem.Challenge.cw_nz0042_01_holds : PySem.Challenge.rw_nz0042_01.Holds := by
 exact fG.holds_of fG.Jn
