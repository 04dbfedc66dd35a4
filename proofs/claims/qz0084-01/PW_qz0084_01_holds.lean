import PyProof.Rows.All
import Wide.All
import OpenK.AllK
import Wide.FinOn
import KE.KxBytes
import KE.KSortKey
import PySem.Challenge.RW_qz0084_01
open PySem PySem.W PyProof.Rows PySem.Calls
set_option maxRecDepth 100000
set_option maxHeartbeats 0
set_option Elab.async false
set_option linter.all false
set_option genSizeOf false
set_option genInjectivity false
set_option compiler.extract_closed false
namespace Mine
set_option hygiene false
local macro_rules
 | `(tactic|cases $h:ident)=> `(tactic|first |subst $h:ident |(injection $h:ident with h1 h2 h3;cases h1;cases h2;cases h3) |(injection $h:ident with h1 h2;cases h1;cases h2) |(injection $h:ident with h1;cases h1) |(injection $h:ident;done))
 | `(tactic|cases $h:term)=> `(tactic|(have h1:_=_:= $h;cases h1))
set_option hygiene true
set_option tactic.hygienic false
noncomputable abbrev bf:=@PySem.wpAny_bind
noncomputable abbrev cO:=@List.length_map
noncomputable abbrev dQ:=@List.mem_singleton
noncomputable abbrev cN:=@List.mem_cons
noncomputable abbrev eG:=@Nat.lt_of_le_of_lt
noncomputable abbrev cS:=@Nat.le_trans
noncomputable abbrev fc:=@List.prefix_refl
noncomputable abbrev iD:=@of_decide_eq_true
noncomputable abbrev dz:=@PySem.wpAny_pure
noncomputable abbrev nc:=@List.getElem?_eq_some_iff
noncomputable abbrev dJ:=@List.length_append
noncomputable abbrev cZ:=@List.all_eq_true
noncomputable abbrev cM:=@decide_eq_true
noncomputable abbrev je:=@List.getElem?_eq_getElem
noncomputable abbrev cX:=@List.mem_map
noncomputable abbrev g7:=@Nat.le_of_ble_eq_true
noncomputable abbrev aZ:=@if_neg
noncomputable abbrev iF:=@List.mem_append_right
noncomputable abbrev g6:=@List.mem_append_left
noncomputable abbrev jd:=@PySem.Heap.get?_push_of_some
noncomputable abbrev dB:=@List.map_map
noncomputable abbrev fN:=@Nat.le_add_right
noncomputable abbrev fC:=@List.append_nil
noncomputable abbrev gB:=@List.getElem?_map
noncomputable abbrev kq:=@Option.isSome_iff_exists
noncomputable abbrev bw:=@if_pos
noncomputable abbrev fM:=@decide_eq_false
noncomputable abbrev iR:=@Nat.add_le_add_left
noncomputable abbrev fU:=@List.nodup_cons
noncomputable abbrev fZ:=@List.map_append
noncomputable abbrev d9:=@Nat.lt_trans
noncomputable abbrev gU:=@List.mem_append
noncomputable abbrev iE:=@List.mem_filter
noncomputable abbrev jA:=@List.append_assoc
noncomputable abbrev fL:=@PySem.Heap.lt_size
noncomputable abbrev iQ:=@Option.some.inj
noncomputable abbrev kj:=@List.size_toArray
noncomputable abbrev jS:=@List.length_cons
noncomputable abbrev lR:=@List.pairwise_map
noncomputable abbrev kX:=@Nat.succ_le_succ
noncomputable abbrev lQ:=@beq_self_eq_true
noncomputable abbrev oV:=@Nat.add_le_add_right
noncomputable abbrev jc:=@Nat.ne_of_lt
noncomputable abbrev nk:=@List.nodup_append
noncomputable abbrev n6:=@Int.natCast_nonneg
noncomputable abbrev lV:=@List.lookup_cons
noncomputable abbrev oU:=@PySem.Heap.get?_push_size
noncomputable abbrev jz:=@Nat.le_of_lt
noncomputable abbrev jR:=@Nat.le_of_eq
noncomputable abbrev jQ:=@Nat.zero_add
noncomputable abbrev nZ:=@List.isEmpty_iff
noncomputable abbrev nj:=@List.length_nil
noncomputable abbrev kW:=@PySem.wpAny_holding
noncomputable abbrev nh:=@List.nodup_nil
noncomputable abbrev rL:=@List.filter_sublist
noncomputable abbrev yc:=@List.getElem?_append_left
noncomputable abbrev vY:=@Nat.lt_of_succ_lt_succ
noncomputable abbrev nY:=@List.cons.inj
noncomputable abbrev uz:=@List.length_reverse
noncomputable abbrev ng:=@Nat.add_comm
noncomputable abbrev AA:=@List.getElem?_concat_length
noncomputable abbrev ux:=@PySem.Heap.SameBut.update
noncomputable abbrev vX:=@List.mem_of_getElem?
noncomputable abbrev Az:=@List.getElem?_append_right
noncomputable abbrev oS:=@Nat.add_assoc
noncomputable abbrev vW:=@Nat.mul_le_mul_left
noncomputable abbrev nV:=@PySem.W.typeIs_bytes
noncomputable abbrev uw:=@PySem.wpAny_loadPart_at
noncomputable abbrev vV:=@Nat.lt_of_lt_of_le
noncomputable abbrev qY:=@List.map_cons
noncomputable abbrev pZ:=@Int.ofNat_le
noncomputable abbrev uu:=@PySem.wpAny_execs_cons
noncomputable abbrev vU:=@Nat.lt_of_succ_lt
noncomputable abbrev Ay:=@List.take_of_length_le
noncomputable abbrev nS:=@PySem.wpAny_field
noncomputable abbrev nR:=@PySem.W.hideAll_get
noncomputable abbrev oR:=@Nat.le_succ
noncomputable abbrev uq:=@Nat.le_add_left
noncomputable abbrev Dy:=@List.getElem?_eq_none_iff
noncomputable abbrev Dw:=@List.pairwise_iff_getElem
noncomputable abbrev Ax:=@List.getElem?_eq_none
noncomputable abbrev Aw:=@List.getElem?_toArray
noncomputable abbrev rK:=@PySem.Heap.size_push
noncomputable abbrev vS:=@decide_eq_decide
noncomputable abbrev qX:=@Int.ofNat_lt
noncomputable abbrev pY:=@Nat.zero_le
noncomputable abbrev Av:=@beq_eq_false_iff_ne
noncomputable abbrev Au:=@PySem.Around.under_plainId
noncomputable abbrev Dv:=@Nat.le_of_succ_le_succ
noncomputable abbrev pX:=@Nat.not_lt
noncomputable abbrev As:=@Bool.false_ne_true
noncomputable abbrev Ar:=@List.find?_eq_none
noncomputable abbrev uo:=@PySem.wpAny_standAt
noncomputable abbrev yb:=@PySem.wpAny_call_entry
noncomputable abbrev EP:=@PySem.F.excBase_Exception
noncomputable abbrev EO:=@Option.isNone_iff_eq_none
noncomputable abbrev pW:=@PySem.wpAny_mono
noncomputable abbrev um:=@Nat.ne_of_gt
noncomputable abbrev JI:=@PySem.F.slot_tuple_iterator_next
theorem qq{n a b:Nat}(h:n<=a)(e:Nat.ble a b=true):n<=b:=cS h (g7 e)
theorem pA{n a b:Nat}(h:n<=a)(e:Nat.ble a.succ b=true):n < b:=cS (kX h) (g7 e)
theorem lz3{n a b:Nat}(h:n < a)(e:Nat.ble a b.succ=true):n<=b:=Dv (cS h (g7 e))
theorem EI{k a b:Nat}(c:Nat)(h:k<=a)(e:Nat.ble (a+c) b=true):k+c<=b:=cS (oV h c) (g7 e)
theorem Rl{k b:Nat}(c:Nat)(e:Nat.ble c b=true):k+c<=k+b:=iR (g7 e) k
theorem Zi{m k:Nat}(h:k<=m):m=m - k+k:=(Nat.sub_add_cancel h).symm
theorem SA{m a k:Nat}(h:a<=m)(e:Nat.ble k a=true):m=m - k+k:=(Nat.sub_add_cancel (cS (g7 e) h)).symm
theorem Zh{j:Nat}:(0+1 * (j:Int))=(j:Int):=by rw[Int.zero_add,Int.one_mul]
theorem aaL{n a b c:Nat}(h:n<=a)(e:Nat.ble (c * a) b=true):c * n<=b:=cS (vW c h) (g7 e)
theorem KL{n a b c:Nat}(h:n<=a)(e:Nat.ble (c * a).succ b=true):c * n < b:=eG (vW c h) (g7 e)
theorem yP{m k a b:Nat}(h:k<=m+a)(e:Nat.ble (b+a) k=true):b<=m:=Nat.le_of_add_le_add_right (cS (g7 e) h)
theorem KJ{n l a b:Nat}(q:n=l)(h:l<=a)(e:Nat.ble a.succ b=true):n < b:=q▸pA h e
theorem W7{n l a b:Nat}(q:n=l)(h:l<=a)(e:Nat.ble a b=true):n<=b:=q▸qq h e
theorem SH{j m:Nat}(h:j < m):0<=(j:Int)/\(j:Int) < (m:Int):=⟨n6 _,qX.mpr h⟩
theorem aaK{a k c:Nat}(h:a<=k):a+c<=k+c:=oV h c
theorem GH{n a b c d:Nat}(h:n<=a)(e:Nat.ble ((c * a)+d) b=true):c * n+d<=b:=cS (oV (vW c h) d) (g7 e)
theorem KI{n a b c d:Nat}(h:n<=a)(e:Nat.ble (d+(c * a)) b=true):d+c * n<=b:=cS (iR (vW c h) d) (g7 e)
theorem SD{a b d:Nat}(h:a+b<=d):a<=d:=cS (fN a b) h
theorem Pp{a b d e:Nat}(h:a+b<=d)(z:Nat.ble d e=true):a<=e:=cS (fN a b) (cS h (g7 z))
theorem W6{a b d e:Nat}(h:a+b<=d)(z:Nat.ble d.succ e=true):a < e:=eG (cS (fN a b) h) (g7 z)
theorem YX{n:Nat}{i:Int}(h: -(n:Int)<=i):0<=i+n:=by have:=Int.add_le_add_right h n;rwa [Int.add_left_neg]at this
theorem YW{n:Nat}{i:Int}(h:i < 0):i+n < n:=by have:=Int.add_lt_add_right h n;rwa [Int.zero_add]at this
theorem zi3:∀m:Nat,m < 33->0 < m->((m:Int)+32 - 1) / 32=1:=by decide
theorem Z_{m:Nat}(h:0 < m):((-1:Int)+m).toNat=m - 1:=(congrArg Int.toNat ((Int.add_comm (-1) _).trans (Int.ofNat_sub h).symm)).trans (Int.toNat_natCast _)
theorem VD{k l:Nat}:k+2 * (l+1)=k+2+2 * l:=(congrArg (k+·) (ng (2 * l) 2)).trans (oS k 2 _).symm
theorem YV{x:Int}{n:Nat}(h1:0<=x)(h2:x < (n:Int)):x.natAbs < n:=qX.mp ((Int.natAbs_of_nonneg h1).symm▸h2)
theorem YU{l:Nat}:1+(1+2 * l)=2 * (l+1):=(oS 1 1 _).symm.trans (ng 2 _)
theorem YT{h m:Nat}(hm:2 * (h+1)<=m+1):2 * h<=m:=Nat.le_of_succ_le (Dv hm)
theorem VC{i:Int}{l:Nat}:i+2+2 * (l:Int)=i+2 * ((l+1:Nat):Int):=(Int.add_assoc i 2 _).trans (congrArg (i+·) ((Int.add_comm 2 _).trans (Int.mul_add 2 (l:Int) 1).symm))
theorem Ry{f:Int}{l:Nat}(h:f < 1+2 * (l:Int))(q:l<=3):f < 40:=Int.lt_of_lt_of_le h (Int.le_trans (Int.add_le_add_left (Int.mul_le_mul_of_nonneg_left (pZ.mpr q) (by decide)) 1) (by decide))
theorem cps{G:Prop}(h:∀P:Prop,(G->P)->P):G:=h G id
noncomputable abbrev PR:Program:=PySem.Challenge.pw_qz0084_01
inductive BS{α β:Type}(o:Option α)(f:α->Option β)(b:β):Prop
 |mk (a:α) (h:o=some a) (e:f a=some b)
theorem bS(h:o.bind f=some b):BS o f b:=(Option.bind_eq_some_iff.mp h).elim λa h=>⟨a,h.1,h.2⟩
inductive MS{α β:Type}(o:Option α)(f:α->β)(b:β):Prop
 |mk (a:α) (h:o=some a) (e:f a=b)
theorem mS(h:o.map f=some b):MS o f b:=(Option.map_eq_some_iff.mp h).elim λa h=>⟨a,h.1,h.2⟩
inductive MM{α β:Type}(l:List α)(f:α->β)(b:β):Prop
 |mk (a:α) (h:a ∈ l) (e:f a=b)
theorem mM(h:b ∈ l.map f):MM l f b:=(cX.mp h).elim λa h=>⟨a,h.1,h.2⟩
theorem bA(h:(a&&b)=true):a=true/\b=true:=Bool.and_eq_true_iff.mp h
inductive Cl |name |string |stream |reference deriving DecidableEq
inductive Ex |tree |i_ deriving DecidableEq
inductive aG
 |int (i:Int) |str (s:Str) |bytes (b:List UInt8)
 deriving DecidableEq
inductive KT |ki |ks |kb deriving DecidableEq
inductive D
 |none |bool (b:Bool) |int (i:Int) |str (s:Str) |bytes (b:List UInt8)
 |tup (l:List D) |list (l:List D) |dict (t:KT) (l:List (aG×D)) |inst (c:Cl) (l:List D) |fn (f:Nat)
inductive aH
 |list (l:List D) |dict (t:KT) (l:List (aG×D)) |bO (l:List ((Int×Int)×D)) |pin (x:aH) |rev (l:List D) |tab (j:Nat) |dead
inductive V
 |d (x:D) |h (n:Nat) |bV (t:Nat) (r:V) |pair (a b:V) |lam (a:Nat)
noncomputable abbrev az:=List aH
noncomputable abbrev bL:=List (Option V)
inductive aR(α:Type) |ok (a:α) (o:az) |exc (x:Ex) (o:az) |stuck
noncomputable def aR.bind{α β:Type}:aR α->(α->az->aR β)->aR β
 | .ok a o,f=>f a o
 | .exc x o,_=> .exc x o
 | .stuck,_=> .stuck
section
variable{prog:Program}{w:World}{K:Type}[DecidableEq K]
noncomputable def sS(knd:KeyKind prog w K)(EG:aG->Option K)(hinj:∀a b x,EG a=some x->EG b=some x->a=b)
  (hstr:∀(k:aG)(x:Str)(y:K)(t:Tok),EG k=some y->knd.is y (.str x t)=true->∀v,knd.is y v=v.isStr x):KeyKind prog w aG where
 is k v:=match EG k with |some x=>knd.is x v |none=>false
 hash k:=match EG k with |some x=>knd.hash x |none=>0
 inj v a b ha hb:=by
  cases ea:EG a with
  |none=>rw[ea]at ha;cases ha
  |some x=>
   cases eb:EG b with
   |none=>rw[eb]at hb;cases hb
   |some y=>
    rw[ea]at ha;rw[eb]at hb;have:=knd.inj v x y ha hb;subst this;exact hinj a b x ea eb
 byValue k v h:=by
  cases ea:EG k with
  |none=>rw[ea]at h;cases h
  |some x=>rw[ea]at h;exact knd.byValue x v h
 pyHash:=λ{A E s k v Q} hv h=>by
  cases ea:EG k with
  |none=>rw[ea]at hv;cases hv
  |some x=>rw[ea]at hv h;exact knd.pyHash hv h
 eqBool:=λ{A E s a b u v Q} hu hv h=>by
  cases ea:EG a with
  |none=>rw[ea]at hu;cases hu
  |some x=>
   cases eb:EG b with
   |none=>rw[eb]at hv;cases hv
   |some y=>
    rw[ea]at hu;rw[eb]at hv;refine knd.eqBool hu hv ?_;rw[show decide (x=y)=decide (a=b)from vS.mpr ⟨λe=>hinj a b x ea (e▸eb),λe=>iQ (ea.symm.trans (e▸eb))⟩];exact h
 «strs» k x t v h:=by
  cases ea:EG k with
  |none=>rw[ea]at h;cases h
  |some y=>rw[ea]at h;exact hstr k x y t ea h v
end
noncomputable def cJ(w:World):KT->KeyKind PR w aG
 | .ki=>sS (intKind PR w) (λk=>match k with | .int i=>some i |_=>none)
  (λa b x ha hb=>by cases a<;>first |(cases ha;done) |(cases b<;>first |(cases hb;done) |(cases ha;cases hb;rfl))) (λk x y t _ h v=>(intKind PR w).«strs» y x t v h)
 | .ks=>sS (strKind PR w) (λk=>match k with | .str i=>some i |_=>none)
  (λa b x ha hb=>by cases a<;>first |(cases ha;done) |(cases b<;>first |(cases hb;done) |(cases ha;cases hb;rfl))) (λk x y t _ h v=>(strKind PR w).«strs» y x t v h)
 | .kb=>sS (bytesKind PR w) (λk=>match k with | .bytes i=>some i |_=>none)
  (λa b x ha hb=>by cases a<;>first |(cases ha;done) |(cases b<;>first |(cases hb;done) |(cases ha;cases hb;rfl))) (λk x y t _ h v=>(bytesKind PR w).«strs» y x t v h)
noncomputable def lI(w:World):HeapKind PR w (List Int):=tupleKind (intKind PR w)
noncomputable abbrev FZ:=(Addr->Option Obj)×(Addr->Option Obj)
structure Gd where
 w:World
 pO:Cl->Addr
 g_:Addr
 dH:Nat->Addr
 nt:Nat->Addr
 qd:Nat->Str
noncomputable abbrev fO(vs:List Value)(ep:Nat):Obj:={cls:= .type "tuple",data:= .seq vs.toArray ep}
noncomputable abbrev dF(vs:List Value)(ep:Nat):Obj:={cls:= .type "list",data:= .seq vs.toArray ep}
noncomputable def bJ:Cl->List Str
 | .name=>["text"] | .string=>["octets","is_hex"] | .stream=>["head","octets"] | .reference=>["number","generation"]
noncomputable def dZ(w:World):List Str->List DictEntry->Prop
 | [],es=>es=[]
 |x::xs,es=>∃e r,es=e::r/\(∃t,e.key= .str x t)/\e.hash=PyData.keyHash w.params x/\dZ w xs r
inductive gy(F:FZ)(mk:List Value->Nat->Obj)(R:List Value->Prop)(v:Value):Prop
 |mk (a:Addr) (vs:List Value) (ep:Nat) (e:v= .ref a) (h:F.1 a=some (mk vs ep)) (r:R vs)
inductive ua(F:FZ)(nd:Prop)(R:List DictEntry->Prop)(v:Value):Prop
 |mk (a:Addr) (es:List DictEntry) (ep:Nat) (e:v= .ref a) (n1:(a==sysModules)=false) (n2:nd) (h:F.1 a=some (dictOf es ep)) (r:R es)
inductive t_(C:Addr)(F:FZ)(nm:List DictEntry->Prop)(R:List Value->Prop)(v:Value):Prop
 |mk (a dx:Addr) (es:List DictEntry) (n:Nat) (e:v= .ref a) (h:F.1 a=some (instObj C dx)) (h2:F.1 dx=some (dictOf es n)) (h3:nm es) (r:R (es.map (λZ=>Z.val)))
inductive mK{α:Type}(P:α->Prop)(R:List α->Prop)(vs:List α):Prop
 |mk (u:α) (us:List α) (e:vs=u::us) (h:P u) (r:R us)
structure Mq(a b c:Prop):Prop where
 h1:a
 h2:b
 h3:c
inductive Al{α β:Type}(R:α->β->Prop):List α->List β->Prop
 |nil:Al R [] []
 |cons {a:α} {b:β} {l:List α} {m:List β}:R a b->Al R l m->Al R (a::l) (b::m)
theorem Al.imp(f:∀a b,R a b->R' a b)(h:Al R l m):Al R' l m:=h.rec .nil λr Z ih=> .cons (f _ _ r) ih
theorem Al.length(h:Al R l m):m.length=l.length:=h.rec rfl λZ Z ih=>congrArg (λZ=>Z+1) ih
noncomputable def lk(k:Int×Int):List Int:=[k.1,k.2]
theorem gy.imp{mk:List Value->Nat->Obj}(s:∀a o,F.1 a=some o->F'.1 a=some o)(f:∀vs,R vs->R' vs):gy F mk R v->gy F' mk R' v:=λx=>x.rec λa vs ep e h r=>⟨a,vs,ep,e,s _ _ h,f _ r⟩
theorem ua.imp(s:∀a o,F.1 a=some o->F'.1 a=some o)(f:∀vs,R vs->R' vs):ua F nd R v->ua F' nd R' v:=λx=>x.rec λa es ep e n1 n2 h r=>⟨a,es,ep,e,n1,n2,s _ _ h,f _ r⟩
theorem t_.imp(s:∀a o,F.1 a=some o->F'.1 a=some o)(f:∀vs,R vs->R' vs):t_ C F nm R v->t_ C F' nm R' v:=λx=>x.rec λa dx es n e h h2 h3 r=>⟨a,dx,es,n,e,s _ _ h,s _ _ h2,h3,f _ r⟩
theorem mK.imp(p:∀u,P u->P' u)(f:∀vs,R vs->R' vs):mK P R vs->mK P' R' vs:=λx=>x.rec λu us e h r=>⟨u,us,e,p _ h,f _ r⟩
section
variable(G:Gd)(F:FZ)
mutual
noncomputable def VR:D->Value->Prop
 | .none,v=>v= .none
 | .bool b,v=>v= .bool b
 | .int i,v=>∃t,v= .int i t
 | .str s,v=>∃t,v= .str s t
 | .bytes b,v=>∃t,v= .bytes (List.toArray b) t
 | .tup ds,v=>gy F fO (cG ds) v
 | .list ds,v=>gy F dF (cG ds) v
 | .dict t ks,v=>ua F (ks.map (λZ=>Z.1)).Nodup (ue t ks) v
 | .inst c ds,v=>t_ (G.pO c) F (dZ G.w (bJ c)) (cG ds) v
 | .fn f,v=>v= .ref (G.dH f)
noncomputable def cG:List D->List Value->Prop
 | [],vs=>vs=[]
 |d::ds,vs=>mK (VR d) (cG ds) vs
noncomputable def ue(t:KT):List (aG×D)->List DictEntry->Prop
 | [],es=>es=[]
 |e::r,es=>mK (ER t e) (ue t r) es
noncomputable def ER(t:KT):(aG×D)->DictEntry->Prop
 |(k,d),e=>Mq ((cJ G.w t).is k e.key=true) (e.hash=(cJ G.w t).hash k) (VR d e.val)
end
inductive qG(k:Int×Int)(a:Addr):Prop
 |mk (vs:List Value) (ep:Nat) (h:F.1 a=some (fO vs ep)) (v:cG G F [.int k.1, .int k.2] vs)
inductive Mh(l:List ((Int×Int)×D))(es:List DictEntry):Prop
 |mk (xs:List (List Int×Addr×Value)) (e:es=xs.map (entryOfKey (lI G.w))) (p:Al (λp x=>Mq (x.1=lk p.1) (qG G F p.1 x.2.1) (VR G F p.2 x.2.2)) l xs)
inductive xN(q:Str)(cv:Value):Prop
 |mk (c:Addr) (oc:Obj) (vs:Array Value) (t:Tok) (e:cv= .ref c) (h:F.1 c=some oc) (hd:oc.data= .fields vs) (h1:vs[1]? =some (.str q t))
noncomputable def Df(j:Nat)(ps:Array Value):Prop:=TriplesOk ps.toList/\∀pos cv,codeAmong pos ps.toList=some cv->xN F (G.qd j) cv
inductive t7(ds:List D)(o:Obj):Prop
 |mk (vs:List Value) (ep:Nat) (e:o=dF vs ep) (r:cG G F ds vs)
inductive lP(nd:Prop)(R:List DictEntry->Prop)(o:Obj):Prop
 |mk (es:List DictEntry) (ep:Nat) (e:o=dictOf es ep) (r:R es) (n:nd)
inductive I8(ds:List D)(o:Obj):Prop
 |mk (ax:Addr) (vs:List Value) (ep:Nat) (h:F.1 ax=some (dF vs ep)) (r:cG G F ds vs) (hc:o.cls= .type "list_reverseiterator") (hd:o.data= .fields #[.ref ax,rawInt ((ds.length:Int) - 1)])
inductive EB(a:Addr)(j:Nat)(o:Obj):Prop
 |mk (e:a=G.nt j) (ps:Array Value) (h:o=tabObj ps) (r:Df G F j ps)
noncomputable def OR(a:Addr):aH->Obj->Prop
 | .list ds,o=>t7 G F ds o
 | .dict t ks,o=>lP (ks.map (λZ=>Z.1)).Nodup (ue G F t ks) o
 | .bO ks,o=>lP (ks.map (λZ=>Z.1)).Nodup (Mh G F ks) o
 | .pin x,o=>F.2 a=some o/\OR a x o
 | .rev ds,o=>I8 G F ds o
 | .tab j,o=>EB G F a j o
 | .dead,_=>True
variable(ρ:List Addr)
inductive Rb(n:Nat)(v:Value):Prop
 |mk (a:Addr) (h:ρ[n]? =some a) (e:v= .ref a)
inductive Mk(t:Nat)(R:Value->Prop)(v:Value):Prop
 |mk (a dx:Addr) (es:List DictEntry) (n:Nat) (tv rv:Value) (e:v= .ref a) (h:F.1 a=some (instObj G.g_ dx)) (h2:F.1 dx=some (dictOf es n)) (hn:dZ G.w ["table","trailer"] es) (he:es.map (λZ=>Z.val)=[tv,rv]) (ht:Rb ρ t tv) (r:R rv)
inductive Jh(P R:Value->Prop)(v:Value):Prop
 |mk (a:Addr) (xv yv:Value) (ep:Nat) (e:v= .ref a) (h:F.1 a=some (fO [xv,yv] ep)) (p:P xv) (r:R yv)
noncomputable def WR:V->Value->Prop
 | .d x,v=>VR G F x v
 | .h n,v=>Rb ρ n v
 | .bV t r,v=>Mk G F ρ t (WR r) v
 | .pair x y,v=>Jh F (WR x) (WR y) v
 | .lam a,v=>v= .ref a
noncomputable def j_:List V->List Value->Prop
 | [],vs=>vs=[]
 |x::xs,vs=>mK (WR G F ρ x) (j_ xs) vs
end
noncomputable def jF(F F':FZ):Prop:=∀a o,F.1 a=some o->F'.1 a=some o
structure Sub(F F':FZ):Prop where
 MT:jF F F'
 pin:F'.2=F.2
theorem Sub.refl(F:FZ):Sub F F:=⟨λZ Z e=>e,rfl⟩
theorem Sub.trans(a:Sub F F')(b:Sub F' rJ):Sub F rJ:=⟨λx o e=>b.1 x o (a.1 x o e),b.2.trans a.2⟩
section
variable{G:Gd}{F F':FZ}
mutual
theorem VR.bE(s:jF F F'):∀(d:D){v:Value},VR G F d v->VR G F' d v
 | .none,_=>id
 | .bool _,_=>id
 | .int _,_=>id
 | .str _,_=>id
 | .bytes _,_=>id
 | .tup l,_=>gy.imp s λZ=>cG.bE s l
 | .list l,_=>gy.imp s λZ=>cG.bE s l
 | .dict _ l,_=>ua.imp s λZ=>ue.bE s l
 | .inst _ l,_=>t_.imp s λZ=>cG.bE s l
 | .fn _,_=>id
theorem cG.bE(s:jF F F'):∀(d:List D){v:List Value},cG G F d v->cG G F' d v
 | [],_=>id
 |x::l,_=>mK.imp (λZ=>VR.bE s x) λZ=>cG.bE s l
theorem ue.bE(s:jF F F'):∀(d:List (aG×D)){v:List DictEntry},ue G F t d v->ue G F' t d v
 | [],_=>id
 |x::l,_=>mK.imp (λZ=>ER.bE s x) λZ=>ue.bE s l
theorem ER.bE(s:jF F F'):∀(d:aG×D){v:DictEntry},ER G F t d v->ER G F' t d v
 |(_,d),_=>λh=>⟨h.1,h.2,VR.bE s d h.3⟩
end
theorem Mh.bE(s:jF F F')(d:List ((Int×Int)×D)):Mh G F d v->Mh G F' d v:=λh=>h.rec λxs e p=>⟨xs,e,p.imp λZ Z h=>⟨h.1,h.2.rec λvs ep h v=>⟨vs,ep,s _ _ h,cG.bE s _ v⟩,VR.bE s _ h.3⟩⟩
theorem VR.mono(s:Sub F F')(x:VR G F d v):VR G F' d v:=x.bE s.1
theorem cG.mono(s:Sub F F')(x:cG G F d v):cG G F' d v:=x.bE s.1
theorem ue.mono(s:Sub F F')(x:ue G F t d v):ue G F' t d v:=x.bE s.1
theorem Mh.mono(s:Sub F F')(x:Mh G F d v):Mh G F' d v:=x.bE s.1
theorem Df.bE(s:jF F F')(h:Df G F j ps):Df G F' j ps:=⟨h.1,λpos cv e=>(h.2 pos cv e).rec λc oc vs t a b d r=>⟨c,oc,vs,t,a,s _ _ b,d,r⟩⟩
theorem t7.bE(s:jF F F'):t7 G F ds o->t7 G F' ds o:=λh=>h.rec λvs ep e r=>⟨vs,ep,e,r.bE s⟩
theorem lP.imp(f:∀es,R es->R' es):lP nd R o->lP nd R' o:=λh=>h.rec λes ep e r n=>⟨es,ep,e,f _ r,n⟩
theorem I8.bE(s:jF F F'):I8 G F ds o->I8 G F' ds o:=λh=>h.rec λax vs ep h r c d=>⟨ax,vs,ep,s _ _ h,r.bE s,c,d⟩
theorem EB.bE(s:jF F F'):EB G F a j o->EB G F' a j o:=λh=>h.rec λe ps q r=>⟨e,ps,q,r.bE s⟩
theorem OR.other(s:jF F F')(e:F'.2 a=F.2 a):∀(x:aH){o:Obj},OR G F a x o->OR G F' a x o
 | .list _,_=>t7.bE s
 | .dict _ l,_=>lP.imp λZ=>ue.bE s l
 | .bO l,_=>lP.imp λZ=>Mh.bE s l
 | .pin x,_=>λh=>⟨e.trans h.1,OR.other s e x h.2⟩
 | .rev _,_=>I8.bE s
 | .tab _,_=>EB.bE s
 | .dead,_=>id
theorem OR.mono(s:Sub F F')(h:OR G F a x o):OR G F' a x o:=OR.other s.1 (congrFun s.2 a) x h
noncomputable def aH.flat:aH->Bool
 | .list _=>true
 | .dict _ _=>true
 | .bO _=>true
 |_=>false
theorem OR.flat(s:jF F F'):∀(x:aH){o:Obj},x.flat=true->OR G F a x o->OR G F' a' x o
 | .list _,_=>λZ=>t7.bE s
 | .dict _ l,_=>λZ=>lP.imp λZ=>ue.bE s l
 | .bO l,_=>λZ=>lP.imp λZ=>Mh.bE s l
 | .pin _,_=>λh=>Bool.noConfusion h
 | .rev _,_=>λh=>Bool.noConfusion h
 | .tab _,_=>λh=>Bool.noConfusion h
 | .dead,_=>λh=>Bool.noConfusion h
theorem jv(p:ρ <+:ρ'){n:Nat}(h:ρ[n]? =some a):ρ'[n]? =some a:=by
 obtain⟨t,rfl⟩:=p;exact(yc (nc.mp h).1).trans h
theorem Rb.mono(p:ρ <+:ρ'){n:Nat}(x:Rb ρ n v):Rb ρ' n v:=x.rec λa h e=>⟨a,jv p h,e⟩
theorem WR.bE(s:jF F F')(p:ρ <+:ρ'):∀(x:V){v:Value},WR G F ρ x v->WR G F' ρ' x v
 | .d x,_=>VR.bE s x
 | .h _,_=>Rb.mono p
 | .bV _ r,_=>λx=>x.rec λa dx es n tv rv e ha hb hn he ht q=>⟨a,dx,es,n,tv,rv,e,s _ _ ha,s _ _ hb,hn,he,ht.mono p,WR.bE s p r q⟩
 | .pair x y,_=>λz=>z.rec λa xv yv ep e ha hx hy=>⟨a,xv,yv,ep,e,s _ _ ha,WR.bE s p x hx,WR.bE s p y hy⟩
 | .lam _,_=>id
theorem WR.mono(s:Sub F F')(p:ρ <+:ρ')(h:WR G F ρ x v):WR G F' ρ' x v:=h.bE s.1 p
theorem j_.mono(s:Sub F F')(p:ρ <+:ρ'):∀{x:List V}{v:List Value},j_ G F ρ x v->j_ G F' ρ' x v
 | [],_=>id
 |_::_,_=>mK.imp (λZ=>WR.mono s p) λZ=>j_.mono s p
end
section
variable{G:Gd}
theorem j_.length:∀{l:List V}{vs:List Value},j_ G F ρ l vs->vs.length=l.length
 | [],_,h=>congrArg List.length h
 |_::_,_,h=>h.rec λu us e a b=>by rw[e];exact congrArg (λZ=>Z+1) (j_.length b)
end
noncomputable def bx{α β:Type}(x:Option α)(f:α->aR β):aR β:=match x with |some a=>f a |none=> .stuck
noncomputable def alt{α β:Type}(x:Option α)(f:α->aR β)(z:aR β):aR β:=match x with |some a=>f a |none=>z
noncomputable def bz{β:Type}(b:Bool)(r:aR β):aR β:=if b=true then r else .stuck
noncomputable def c6(n:Nat):Bool:=Nat.ble n 1000000
noncomputable def kM:V->Option D
 | .d x=>some x
 |_=>none
noncomputable def D.int?:D->Option Int
 | .int i=>some i
 |_=>Option.none
noncomputable def D.DJ:D->Option Str
 | .str i=>some i
 |_=>Option.none
noncomputable def D.pQ:D->Option (List UInt8)
 | .bytes i=>some i
 |_=>Option.none
noncomputable def D.AB:D->Option (List D)
 | .tup i=>some i
 |_=>Option.none
noncomputable def D.yR:D->Option (List D)
 | .list i=>some i
 |_=>Option.none
noncomputable def jC(v:V):Option Int:=(kM v).bind D.int?
noncomputable def WC(v:V):Option Str:=(kM v).bind D.DJ
noncomputable def q7(v:V):Option (List UInt8):=(kM v).bind D.pQ
noncomputable def n8(v:V):Option (List D):=(kM v).bind D.AB
noncomputable def GJ(v:V):Option (List D):=(kM v).bind D.yR
noncomputable def rO:aH->aH
 | .pin x=>x
 |x=>x
noncomputable def D.obj?:D->Option aH
 | .list l=>some (.list l)
 | .dict t l=>some (.dict t l)
 |_=>Option.none
noncomputable def Gl(o:az):V->Option aH
 | .d x=>x.obj?
 | .h n=>o[n]?.map rO
 |_=>none
noncomputable def aH.yR:aH->Option (List D)
 | .list l=>some l
 |_=>Option.none
noncomputable def aH.H8:aH->Option (KT×List (aG×D))
 | .dict t l=>some (t,l)
 |_=>Option.none
noncomputable def bU(o:az)(v:V):Option (List D):=(Gl o v).bind aH.yR
noncomputable def cH(o:az)(v:V):Option (KT×List (aG×D)):=(Gl o v).bind aH.H8
noncomputable def uB(F:FZ)(a:Addr)(o:Obj):FZ:=(λb=>if b=a then some o else F.1 b,F.2)
theorem cj(F:FZ)(a:Addr)(o:Obj):(uB F a o).1 a=some o:=by simp[uB]
theorem iT(F:FZ)(o:Obj)(h:b≠a):(uB F a o).1 b=F.1 b:=by simp[uB,h]
theorem bM(o:Obj)(h:F.1 a=none):Sub F (uB F a o):=⟨λb x e=>by
 by_cases q:b=a
 ·subst q;rw[h]at e;cases e
 ·rw[iT F o q];exact e,rfl⟩
noncomputable def lB(p:Addr×Obj):Bool:=match p.2.data with | .fields _=>true |_=>false
theorem JB(h:lB p=false):∀vs,p.2.data≠ .fields vs:=λvs e=>by unfold lB at h;rw[e]at h;cases h
noncomputable def nO(p:Addr×Obj):Bool:= !lB p&&p.2.slots.size==4242
noncomputable def pq(o:Obj):Obj:={o with slots:=Array.replicate 4242 none}
theorem cY(h:p.2.data= .fields vs):nO p=false:=by unfold nO lB;rw[h];rfl
theorem Bq{p:Addr×Obj}(h:∀vs,p.2.data≠ .fields vs):lB p=false:=by
 unfold lB;generalize p.2.data=d at h;cases d<;>first |rfl |exact absurd rfl (h _)
theorem mZ(h:∀vs,o.data≠ .fields vs):nO (a,pq o)=true:=by
 have:lB (a,pq o)=false:=Bq (p:=(a,pq o)) h;unfold nO;rw[this];simp[pq]
theorem A8(h:nO p=true):∀vs,p.2.data≠ .fields vs:=λvs e=>by rw[cY e]at h;cases h
theorem vm{X:List (Addr×Obj)}(nd:(X.map (λZ=>Z.1)).Nodup)(hp:p ∈ X)(hq:q ∈ X)(e:p.1=q.1):p=q:=by
 induction X with
 |nil=>cases hp
 |cons x X ih=>
  obtain⟨n1,n2⟩:=fU.mp nd;rcases cN.mp hp with a |a
  ·rcases cN.mp hq with b |b
   ·exact a.trans b.symm
   ·exact(n1 (cX.mpr ⟨q,b,by rw[<-a];exact e.symm⟩)).elim
  ·rcases cN.mp hq with b |b
   ·exact(n1 (cX.mpr ⟨p,a,by rw[<-b];exact e⟩)).elim
   ·exact ih n2 a b
inductive Holds(h:Heap)(p:Addr×Obj):Prop
 |mk' (sl:Array (Option Value)) (e:h.get? p.1=some {p.2 with slots:=sl}) (m:nO p=false->sl=p.2.slots)
theorem Holds.of(e:h.get? p.1=some p.2):Holds h p:=⟨p.2.slots,e,λZ=>rfl⟩
theorem Holds.mk(e:h.get? a=some o)(n:∀vs,o.data≠ .fields vs):Holds h (a,pq o):=⟨o.slots,e,λq=>by rw[mZ n]at q;cases q⟩
theorem Holds.map(x:Holds h p)(k:∀o,h.get? p.1=some o->h'.get? p.1=some o):Holds h' p:=x.rec λsl a b=>⟨sl,k _ a,b⟩
theorem Holds.exact(x:Holds h p)(m:nO p=false):h.get? p.1=some p.2:=x.rec λsl a b=>by rw[b m]at a;exact a
theorem Holds.lt(x:Holds h p):p.1 < h.objs.size:=x.rec λZ a Z=>fL a
inductive Di(G:Gd)(F:FZ)(ρ:List Addr)(h:Heap)(i:Nat)(x:aH):Prop
 |mk (a:Addr) (o:Obj) (h1:ρ[i]? =some a) (h2:h.get? a=some o) (h3:F.1 a=none) (r:OR G F a x o)
structure SR(G:Gd)(ah:Heap)(F:FZ)(ρ:List Addr)(objs:az)(X:List (Addr×Obj))(h:Heap):Prop where
 base:∀a o,ah.get? a=some o->F.1 a=some o
 stays:∀a o,F.1 a=some o->h.get? a=some o
 len:ρ.length=objs.length
 obj:∀(i:Nat)(x:aH),objs[i]? =some x->x≠ .dead->Di G F ρ h i x
 inj:∀(i j:Nat)(x y:aH)(a:Addr),objs[i]? =some x->x≠ .dead->objs[j]? =some y->y≠ .dead->ρ[i]? =some a->ρ[j]? =some a->i=j
 jw:∀p ∈ X,Holds h p/\F.1 p.1=none
 apart:∀p ∈ X,∀(i:Nat)(x:aH),objs[i]? =some x->x≠ .dead->ρ[i]? ≠some p.1
 nodup:(X.map (λZ=>Z.1)).Nodup
section
variable{G:Gd}{ah:Heap}{F F':FZ}{ρ ρ':List Addr}{objs objs':az}{X X':List (Addr×Obj)}{h h':Heap}{a:Addr}{o:Obj}
theorem SR.ext(S:SR G ah F ρ objs X h)(p:Addr×Obj)(hp:p ∈ X)(m:nO p=false:=by rfl):h.get? p.1=some p.2/\F.1 p.1=none:=⟨(S.jw p hp).1.exact m,(S.jw p hp).2⟩
theorem SR.lC(S:SR G ah F ρ objs X h)(p:Addr×Obj)(hp:p ∈ X):F.1 p.1=none:=(S.jw p hp).2
theorem SR.HX(S:SR G ah F ρ objs X h)(p:Addr×Obj)(hp:p ∈ X):p.1 < h.objs.size:=(S.jw p hp).1.lt
theorem SR.zB(S:SR G ah F ρ objs X h)(hp:p ∈ X):∃o',h.get? p.1=some o'/\o'.data=p.2.data:=(S.jw p hp).1.rec λZ a Z=>⟨_,a,rfl⟩
theorem Di.to(z:Di G F ρ h i x)(k:∀b o,ρ[i]? =some b->h.get? b=some o->h'.get? b=some o):Di G F ρ h' i x:=z.rec λa o h1 h2 h3 r=>⟨a,o,h1,k _ _ h1 h2,h3,r⟩
theorem SR.addr(S:SR G ah F ρ objs X h){i:Nat}(hi:objs[i]? =some x)(hx:x≠ .dead)(ha:ρ[i]? =some a):(∃o,h.get? a=some o/\OR G F a x o)/\F.1 a=none:=(S.obj i x hi hx).rec λb o h1 h2 h3 r=>by
 rw[ha]at h1;cases h1;exact⟨⟨o,h2,r⟩,h3⟩
theorem SR.turn(S:SR G ah F ρ objs X h)(k:∀b o,h.get? b=some o->h'.get? b=some o):SR G ah F ρ objs X h':=
 ⟨S.base,λa o e=>k _ _ (S.stays a o e),S.len,λi x e n=>(S.obj i x e n).to λb o Z=>k b o,S.inj,λp hp=>⟨(S.jw p hp).1.map λo=>k _ o,S.lC p hp⟩,S.apart,S.nodup⟩
theorem SR.push(S:SR G ah F ρ objs X h)(o:Obj):SR G ah F ρ objs X (h.push o):=S.turn λZ Z e=>jd o e
theorem SR.br(S:SR G ah F ρ objs X h):F.1 h.objs.size=none:=by
 cases e:F.1 h.objs.size with
 |none=>rfl
 |some o=>exact absurd (fL (S.stays _ _ e)) (Nat.lt_irrefl _)
theorem SR.OP(S:SR G ah F ρ objs X h){i:Nat}(hi:objs[i]? =some x)(hx:x≠ .dead)(ha:ρ[i]? =some a):a < h.objs.size:=let⟨⟨_,e,_⟩,_⟩:=S.addr hi hx ha;fL e
noncomputable abbrev Af(ρ:List Addr)(objs:az)(a:Addr):Prop:=∀(i:Nat)(x:aH),objs[i]? =some x->x≠ .dead->ρ[i]? ≠some a
theorem SR.Eg(S:SR G ah F ρ objs X h){a:Addr}(ha:h.objs.size<=a):Af ρ objs a:=λZ Z hi hx e=>absurd (S.OP hi hx e) (pX.mpr ha)
theorem SR.pH(S:SR G ah F ρ objs X h)(ha:h.objs.size<=a):∀p ∈ X,p.1≠a:=λp hp e=>absurd (S.HX p hp) (by rw[e];exact pX.mpr ha)
theorem SR.freeze(S:SR G ah F ρ objs X h)(hh:h.get? a=some o)(hF:F.1 a=none)(hr:Af ρ objs a)(hX:∀p ∈ X,p.1≠a):SR G ah (uB F a o) ρ objs X h where
 base:=λb x e=>(bM o hF).1 b x (S.base b x e)
 stays:=λb x e=>by
  by_cases q:b=a
  ·clear hX hr hF;subst q;rw[cj]at e;cases e;exact hh
  ·rw[iT F o q]at e;exact S.stays b x e
 len:=S.len
 obj:=λi x e n=>(S.obj i x e n).rec λb y h1 h2 h3 r=>⟨b,y,h1,h2,(iT F o (λq:b=a=>hr i x e n (q▸h1))).trans h3,r.mono (bM o hF)⟩
 inj:=S.inj
 jw:=λp hp=>⟨(S.jw p hp).1,(iT F o (hX p hp)).trans (S.lC p hp)⟩
 apart:=S.apart
 nodup:=S.nodup
theorem SR.oB(S:SR G ah F ρ objs X h)(hf:o.isFreed=false):SR G ah (uB F h.objs.size o) ρ objs X (h.push o):=
 (S.push o).freeze (oU h hf) S.br (S.Eg (Nat.le_refl _)) (S.pH (Nat.le_refl _))
theorem OR.exact:∀(x:aH),x.flat=true->OR G F a x o->nO (a,o)=false
 | .list _,_=>λh=>h.rec λZ Z e Z=>by rw[e];rfl
 | .dict _ _,_=>λh=>h.rec λZ Z e Z Z=>by rw[e];rfl
 | .bO _,_=>λh=>h.rec λZ Z e Z Z=>by rw[e];rfl
 | .pin _,h=>Bool.noConfusion h
 | .rev _,h=>Bool.noConfusion h
 | .tab _,h=>Bool.noConfusion h
 | .dead,h=>Bool.noConfusion h
theorem jY(h:(l++[y])[i]? =some x):l[i]? =some x\/(i=l.length/\x=y):=by
 rcases Nat.lt_trichotomy i l.length with q |q |q
 ·exact .inl ((yc q).symm.trans h)
 ·subst q;rw[AA]at h;cases h;exact .inr ⟨rfl,rfl⟩
 ·rw[Ax (by rw[dJ];exact q)]at h;cases h
theorem SR.J4(S:SR G ah F ρ objs X h)(e:objs[k]? =some u):k < ρ.length:=by rw[S.len];exact(nc.mp e).1
theorem SR.Fb(S:SR G ah F ρ objs X h)(hh:h.get? a=some o)(hF:F.1 a=none)(hr:Af ρ objs a)(hX:∀p ∈ X,p.1≠a)
  (ho:OR G F a x o):SR G ah F (ρ++[a]) (objs++[x]) X h:=by
 have old:∀{i:Nat}{y:aH}{b:Addr},(objs++[x])[i]? =some y->(ρ++[a])[i]? =some b->(objs[i]? =some y/\ρ[i]? =some b)\/(i=ρ.length/\b=a):=λ{i y b} e e'=>by
  rcases jY e' with q |q
  ·rcases jY e with p |⟨p,_⟩
   ·exact .inl ⟨p,q⟩
   ·rw[Ax (by rw[S.len,p];exact Nat.le_refl _)]at q;cases q
  ·exact .inr q
 refine⟨S.base,S.stays,by rw[dJ,dJ,S.len];rfl,λi y e n=> ?_,λi j y z b ei ny ej nz hi hj=> ?_,S.jw,λp hp i y e n q=> ?_,S.nodup⟩
 ·rcases jY e with e |⟨e1,e2⟩
  ·exact(S.obj i y e n).rec λb z h1 h2 h3 r=>⟨b,z,jv ⟨_,rfl⟩ h1,h2,h3,r⟩
  ·clear e old;subst e2;exact⟨a,o,by rw[e1, <-S.len];exact AA,hh,hF,ho⟩
 ·rcases old ei hi with⟨e1,h1⟩ |⟨h1,q1⟩<;>rcases old ej hj with⟨e2,h2⟩ |⟨h2,q2⟩
  ·exact S.inj i j y z b e1 ny e2 nz h1 h2
  ·exact absurd (q2▸h1) (hr i y e1 ny)
  ·exact absurd (q1▸h2) (hr j z e2 nz)
  ·exact h1.trans h2.symm
 ·rcases old e q with⟨e1,h1⟩ |⟨_,q1⟩
  ·exact S.apart p hp i y e1 n h1
  ·exact hX p hp q1
theorem SR.uU(S:SR G ah F ρ objs X h)(hf:o.isFreed=false)(ho:OR G F h.objs.size x o):SR G ah F (ρ++[h.objs.size]) (objs++[x]) X (h.push o):=
 (S.push o).Fb (oU h hf) S.br (S.Eg (Nat.le_refl _)) (S.pH (Nat.le_refl _)) ho
theorem jn{l:List α}(e:(l.set i z)[j]? =some y):(j=i/\y=z)\/(j≠i/\l[j]? =some y):=by
 rw[List.getElem?_set]at e;split at e
 ·rename_i q;split at e
  ·cases e;exact .inl ⟨q.symm,rfl⟩
  ·cases e
 ·rename_i q;exact .inr ⟨λz=>q z.symm,e⟩
theorem SR.alter(S:SR G ah F ρ objs X h){i:Nat}(hi:objs[i]? =some x)(hx:x≠ .dead)(ha:ρ[i]? =some a)(hF:F'.1=F.1)(hP:∀b,b≠a->F'.2 b=F.2 b)(hs:∀b,b≠a->h'.get? b=h.get? b)
  (ho:x'≠ .dead->∃o',h'.get? a=some o'/\OR G F' a x' o'):SR G ah F' ρ (objs.set i x') X h':=by
 have hN:=(S.addr hi hx ha).2;have live:∀{j:Nat}{y:aH},(objs.set i x')[j]? =some y->y≠ .dead->∃z,objs[j]? =some z/\z≠ .dead:=λ{j y} e n=>by
  rcases jn e with⟨q,_⟩ |⟨_,e⟩
  ·exact⟨x,q▸hi,hx⟩
  ·exact⟨y,e,n⟩
 refine⟨λb y e=>(congrFun hF b).trans (S.base b y e),λb y e=> ?_,by rw[List.length_set];exact S.len,λj y e n=> ?_,λj k y z b ej ny ek nz hj hk=> ?_,λp hp=>⟨?_,(congrFun hF _).trans (S.lC p hp)⟩,λp hp j y e n q=> ?_,S.nodup⟩
 ·rw[hF]at e;exact(hs b λq=>by rw[q,hN]at e;cases e).trans (S.stays b y e)
 ·rcases jn e with⟨q,q'⟩ |⟨q,e⟩
  ·clear e live;subst q;subst q';obtain⟨o',h1,h2⟩:=ho n;exact⟨a,o',ha,h1,(congrFun hF _).trans hN,h2⟩
  ·refine(S.obj j y e n).rec λc z g1 g2 g3 r=> ?_;have hc:c≠a:=λq'=>q (S.inj j i y x a e n hi hx (q'▸g1) ha);exact⟨c,z,g1,(hs c hc).trans g2,(congrFun hF _).trans g3,r.other (λb o e=>(congrFun hF b).trans e) (hP c hc)⟩
 ·obtain⟨y',e1,n1⟩:=live ej ny;obtain⟨z',e2,n2⟩:=live ek nz;exact S.inj j k y' z' b e1 n1 e2 n2 hj hk
 ·exact(S.jw p hp).1.map λo e=>(hs p.1 λq=>S.apart p hp i x hi hx (q▸ha)).trans e
 ·obtain⟨y',e1,n1⟩:=live e n;exact S.apart p hp j y' e1 n1 q
theorem SR.update(S:SR G ah F ρ objs X h)(hi:objs[i]? =some x)(hx:x≠ .dead)(ha:ρ[i]? =some a)(hs:Heap.SameBut a h h')(hn:h'.get? a=some o')(ho:OR G F a x' o'):
  SR G ah F ρ (objs.set i x') X h':=S.alter hi hx ha rfl (λZ Z=>rfl) hs.2 λZ=>⟨o',hn,ho⟩
theorem SR.CN(S:SR G ah F ρ objs X h)(hh:Holds h (a,o))(hF:F.1 a=none)(hr:∀(i:Nat)(y:aH),objs[i]? =some y->y≠ .dead->ρ[i]? ≠some a)(hX:∀p ∈ X,p.1≠a):
  SR G ah F ρ objs ((a,o)::X) h:=
 ⟨S.base,S.stays,S.len,S.obj,S.inj,λp hp=>by rcases cN.mp hp with rfl |hp;exact⟨hh,hF⟩;exact S.jw p hp,
  λp hp=>by rcases cN.mp hp with rfl |hp;exact hr;exact S.apart p hp,fU.mpr ⟨λq=>by obtain⟨p,hp,e⟩:=mM q;exact hX p hp e,S.nodup⟩⟩
theorem SR.hold(S:SR G ah F ρ objs X h)(hh:h.get? a=some o)(hF:F.1 a=none)(hr:∀(i:Nat)(y:aH),objs[i]? =some y->y≠ .dead->ρ[i]? ≠some a)(hX:∀p ∈ X,p.1≠a):
  SR G ah F ρ objs ((a,o)::X) h:=S.CN (.of hh) hF hr hX
theorem SR.cR(S:SR G ah F ρ objs X h)(hf:o.isFreed=false):SR G ah F ρ objs ((h.objs.size,o)::X) (h.push o):=
 (S.push o).hold (oU h hf) S.br (S.Eg (Nat.le_refl _)) (S.pH (Nat.le_refl _))
theorem SR.less(S:SR G ah F ρ objs X h)(hs:X'.Sublist X):SR G ah F ρ objs X' h:=
 ⟨S.base,S.stays,S.len,S.obj,S.inj,λp hp=>S.jw p (hs.subset hp),λp hp=>S.apart p (hs.subset hp),S.nodup.sublist (hs.map _)⟩
theorem SR.sub(S:SR G ah F ρ objs X h)(hs:∀p ∈ X',p ∈ X)(nd:(X'.map (λZ=>Z.1)).Nodup):SR G ah F ρ objs X' h:=
 ⟨S.base,S.stays,S.len,S.obj,S.inj,λp hp=>S.jw p (hs p hp),λp hp=>S.apart p (hs p hp),nd⟩
theorem SR.perm(S:SR G ah F ρ objs X h)(hs:X'.Perm X):SR G ah F ρ objs X' h:=
 ⟨S.base,S.stays,S.len,S.obj,S.inj,λp hp=>S.jw p (hs.mem_iff.mp hp),λp hp=>S.apart p (hs.mem_iff.mp hp),(hs.map _).nodup_iff.mpr S.nodup⟩
theorem SR.xu(S:SR G ah F ρ objs (cz++X) h)(k:∀b ob,b ∉ cz.map (λZ=>Z.1)->h.get? b=some ob->h'.get? b=some ob):SR G ah F ρ objs X h':=by
 have nd:=S.nodup;rw[fZ]at nd;have S':SR G ah F ρ objs X h:=S.less (List.sublist_append_right _ _);refine⟨S'.base,λb ob e=>k _ _ (λq=> ?_) (S'.stays b ob e),S'.len,λi x hx xd=>(S'.obj i x hx xd).to λb o g1 g2=>k _ _ (λq=> ?_) g2,S'.inj,λp hp=>⟨(S'.jw p hp).1.map λo e=>k _ _ (λq=>(nk.mp nd).2.2 _ q _ (cX.mpr ⟨p,hp,rfl⟩) rfl) e,S'.lC p hp⟩,S'.apart,S'.nodup⟩
 ·obtain⟨p,hp,rfl⟩:=mM q;rw[S.lC p (g6 _ hp)]at e;cases e
 ·clear g2;obtain⟨p,hp,rfl⟩:=mM q;exact S.apart p (g6 _ hp) i x hx xd g1
theorem SR.B6(S:SR G ah F ρ objs (cz++X) h)(hm:iA.map (λZ=>Z.1)=cz.map (λZ=>Z.1))(k:∀b ob,b ∉ cz.map (λZ=>Z.1)->h.get? b=some ob->h'.get? b=some ob)(hn:∀p ∈ iA,h'.get? p.1=some p.2):SR G ah F ρ objs (iA++X) h':=by
 have S':=S.xu k;have old:∀p ∈ iA,∃q ∈ cz,q.1=p.1:=λp hp=>cX.mp (hm▸cX.mpr ⟨p,hp,rfl⟩);refine⟨S'.base,S'.stays,S'.len,S'.obj,S'.inj,λp hp=> ?_,λp hp=> ?_,by rw[fZ,hm, <-fZ];exact S.nodup⟩
 ·rcases gU.mp hp with hp |hp
  ·obtain⟨q,hq,e⟩:=old p hp;exact⟨.of (hn p hp),e▸S.lC q (g6 _ hq)⟩
  ·exact S'.jw p hp
 ·rcases gU.mp hp with hp |hp
  ·obtain⟨q,hq,e⟩:=old p hp;exact e▸S.apart q (g6 _ hq)
  ·exact S'.apart p hp
theorem SR.fall(S:SR G ah F ρ objs ((I,o)::X) h)(e:Heap.ExtBut I h h'):SR G ah F ρ objs X h':=SR.xu (cz:=[(I,o)]) S λb ob n q=>e b ob (λz=>n (z▸ .head _)) q
theorem SR.Mw(S:SR G ah F ρ objs ((a,o)::X) h)(e:Heap.ExtBut a h h')(hn:h'.get? a=some o'):SR G ah F ρ objs ((a,o')::X) h':=SR.B6 (cz:=[(a,o)]) (iA:=[(a,o')]) S rfl (λb ob n q=>e b ob (λz=>n (z▸ .head _)) q) λp hp=>by cases dQ.mp hp;exact hn
theorem SR.lX(S:SR G ah F ρ objs ((a,o)::X) h)(hs:Heap.SameBut a h h')(hn:h'.get? a=some o'):SR G ah F ρ objs ((a,o')::X) h':=S.Mw hs.extBut hn
theorem SR.xj(S:SR G ah F ρ objs ((a,o)::X) h)(m:nO (a,o)=false:=by rfl):SR G ah (uB F a o) ρ objs X h:=
 (S.less (List.sublist_cons_self _ _)).freeze (S.ext (a,o) (.head _) m).1 (S.lC (a,o) (.head _)) (S.apart (a,o) (.head _)) λp hp q=>(fU.mp S.nodup).1 (cX.mpr ⟨p,hp,q⟩)
theorem SR.Ac(S:SR G ah F ρ objs ((a,o)::X) h):F.1 a=none:=S.lC (a,o) (.head _)
theorem SR.drop(S:SR G ah F ρ objs X h){i:Nat}(hi:objs[i]? =some x)(hx:x≠ .dead)(ha:ρ[i]? =some a):SR G ah F ρ (objs.set i .dead) X h/\Af ρ (objs.set i .dead) a/\∀p ∈ X,p.1≠a:=
 ⟨S.alter hi hx ha rfl (λZ Z=>rfl) (λZ Z=>rfl) λn=>absurd rfl n,λj y e n q=>by
  rcases jn e with⟨_,q'⟩ |⟨q',e⟩
  ·exact n q'
  ·exact q' (S.inj j i y x a e n hi hx q ha),λp hp q=>S.apart p hp i x hi hx (q▸ha)⟩
theorem SR.kill(S:SR G ah F ρ objs X h)(hi:objs[i]? =some x)(hx:x≠ .dead)(ha:ρ[i]? =some a)(hh:h.get? a=some o):
  SR G ah (uB F a o) ρ (objs.set i .dead) X h:=let⟨S',p,q⟩:=S.drop hi hx ha;S'.freeze hh (S.addr hi hx ha).2 p q
theorem SR.Y3(S:SR G ah F ρ objs X h)(hi:objs[i]? =some x)(hx:x≠ .dead)(ha:ρ[i]? =some a)(hh:h.get? a=some o):
  SR G ah F ρ (objs.set i .dead) ((a,o)::X) h:=let⟨S',p,q⟩:=S.drop hi hx ha;S'.hold hh (S.addr hi hx ha).2 p q
noncomputable def Km(F:FZ)(a:Addr)(o:Obj):FZ:=(F.1,λb=>if b=a then some o else F.2 b)
theorem wD:jF F (Km F a o):=λZ Z e=>e
theorem vJ{x:aH}(hx:x.flat=true):x≠ .dead:=by rintro rfl;cases hx
theorem SR.pin(S:SR G ah F ρ objs X h)(hi:objs[i]? =some x)(hx:x.flat=true)(ha:ρ[i]? =some a)(hh:h.get? a=some o):
  SR G ah (Km F a o) ρ (objs.set i (.pin x)) X h:=
 S.alter hi (vJ hx) ha rfl (λb n=>aZ n) (λZ Z=>rfl) λZ=>by
  obtain⟨⟨o₁,h2,r⟩,_⟩:=S.addr hi (vJ hx) ha;rw[hh]at h2;cases h2;exact⟨o,hh,bw rfl,OR.flat wD x hx r⟩
theorem SR.rO(S:SR G ah F ρ objs X h)(hi:objs[i]? =some (.pin x))(hx:x.flat=true)(ha:ρ[i]? =some a)(hP:F.2=λb=>if b=a then some o else P b):
  SR G ah (F.1,P) ρ (objs.set i x) X h/\h.get? a=some o:=by
 refine cps λPP kk=> ?_;obtain⟨⟨o₁,h2,hp,r⟩,_⟩:=S.addr hi (λe=>by cases e) ha;refine kk ?_;clear kk;rw[hP]at hp;have hp:=(bw rfl).symm.trans hp;cases hp;exact⟨S.alter hi (λe=>by cases e) ha rfl (λb n=>((congrFun hP b).trans (aZ n)).symm) (λZ Z=>rfl) λZ=>⟨o,h2,OR.flat (F:=F) (F':=(F.1,P)) (λZ Z e=>e) x hx r⟩,h2⟩
noncomputable def AV(X:List (Addr×Obj))(a:Addr)(o:Obj):List (Addr×Obj):=X.map λp=>if p.1=a then(a,o)else p
theorem mV(X:List (Addr×Obj))(a:Addr)(o:Obj):(AV X a o).map (λZ=>Z.1)=X.map (λZ=>Z.1):=by
 rw[AV,dB];apply List.map_congr_left;intro p _;simp only[Function.comp];split<;>simp_all
theorem r8(h:(a,o₁) ∈ X):(a,o) ∈ AV X a o:=cX.mpr ⟨_,h,by simp⟩
theorem fj(h:p ∈ X)(n:p.1≠a):p ∈ AV X a o:=cX.mpr ⟨p,h,by simp[n]⟩
theorem r_(h:p ∈ AV X a o):p=(a,o)\/(p ∈ X/\p.1≠a):=by
 obtain⟨q,hq,e⟩:=mM h
 by_cases n:q.1=a
 ·rw[bw n]at e;exact .inl e.symm
 ·rw[aZ n]at e;subst e;exact .inr ⟨hq,n⟩
theorem SR.turnAt(S:SR G ah F ρ objs X h)(hm:(a,o₁) ∈ X)(hs:Heap.SameBut a h h')(hn:Holds h' (a,o')):SR G ah F ρ objs (AV X a o') h':=by
 have hF:=S.lC _ hm;have hap:=S.apart _ hm;refine⟨S.base,λb y e=> ?_,S.len,λi x e n=> ?_,S.inj,λp hp=> ?_,λp hp=> ?_,by rw[mV];exact S.nodup⟩
 ·exact(hs.2 b (λq=>by subst q;rw[hF]at e;cases e)).trans (S.stays b y e)
 ·exact(S.obj i x e n).to λb o g1 g2=>(hs.2 b λq=>hap i x e n (q▸g1)).trans g2
 ·rcases r_ hp with rfl |⟨hp,n⟩
  ·exact⟨hn,hF⟩
  ·exact⟨(S.jw p hp).1.map λo e=>(hs.2 p.1 n).trans e,S.lC p hp⟩
 ·rcases r_ hp with rfl |⟨hp,n⟩
  ·exact hap
  ·exact S.apart p hp
theorem SR.take(S:SR G ah F ρ objs X h)(n:Nat):SR G ah F (ρ.take n) (objs.take n) X h:=by
 have ob:∀{i:Nat}{x:aH},(objs.take n)[i]? =some x->objs[i]? =some x/\i < n:=λ{i x} e=>by
  rw[List.getElem?_take]at e;split at e
  ·rename_i q;exact⟨e,q⟩
  ·cases e
 have rh:∀{i:Nat}{x:Addr},(ρ.take n)[i]? =some x->ρ[i]? =some x:=λ{i x} e=>by
  rw[List.getElem?_take]at e;split at e
  ·exact e
  ·cases e
 refine⟨S.base,S.stays,by simp[S.len],λi x e d=> ?_,λi j x y a e1 d1 e2 d2 h1 h2=>S.inj i j x y a (ob e1).1 d1 (ob e2).1 d2 (rh h1) (rh h2),S.jw,λp hp i x e d q=>S.apart p hp i x (ob e).1 d (rh q),S.nodup⟩;exact(S.obj i x (ob e).1 d).rec λa o h1 h2 h3 r=>⟨a,o,by rw[List.getElem?_take,bw (ob e).2];exact h1,h2,h3,r⟩
end
structure aP(G:Gd)(ah:Heap)where
 p:Program
 loose:List Str
 mg:Str->Option Value
 mb:Str->Option Value
 T:TopRead p loose mg mb ah
 sm:∃o,ah.get? sysModules=some o
 j4:Ex->Addr
 K:Frag
 vz:K.In ah
 vj:ah.NoLimit
 bmain:∃bm ob,mg "__builtins__"=some (.ref bm)/\bm≠builtinsNs/\bm≠mainGlobals/\ah.get? bm=some ob/\ob.cls= .type "module"/\ob.dict=some builtinsNs/\ob.data= .plain
structure Cx where
 en:Env
 vis:Nat->Option Str
 own:List Addr
structure CxOk(cx:Cx):Prop where
 kind:cx.en.scope.kind= .function
 glob:cx.en.globals=mainGlobals
 blt:cx.en.builtins=builtinsNs
 names:∀i x,cx.vis i=some x->(x==("__debug__":Str))=false/\(x==("__classdict__":Str))=false
inductive uP(X:List (Addr×Obj))(en:Env)(x:Str)(u:Value):Prop
 |loc (k:en.kindOf x=some .local) (o:Obj) (es:Array DictEntry) (ep:Nat) (m:(en.locals,o) ∈ X) (d:o.data= .dict es ep) (sk:StrKeys es) (f:nsFind es x=some u)
 |cell (c:Addr) (o:Obj) (k:en.kindOf x=some .cell\/en.kindOf x=some .free) (l:en.cells.lookup x=some c) (m:(c,o) ∈ X) (d:o.data= .cell (some u))
inductive YJ(X:List (Addr×Obj))(a:Addr):Prop
 |mk (o:Obj) (es:Array DictEntry) (ep:Nat) (m:(a,o) ∈ X) (d:o.data= .dict es ep) (sk:StrKeys es)
inductive YS(X:List (Addr×Obj))(en:Env)(x:Str):Prop
 |mk (c:Addr) (o:Obj) (v:Option Value) (l:en.cells.lookup x=some c) (m:(c,o) ∈ X) (d:o.data= .cell v)
noncomputable def nL(en:Env):List Addr:=en.locals::en.cells.map (λZ=>Z.2)
structure Dq(cx:Cx)(X:List (Addr×Obj)):Prop where
 loc:YJ X cx.en.locals
 cell:∀x,cx.en.kindOf x=some .cell->YS X cx.en x
 own:∀a ∈ nL cx.en,a ∈ X.map (λZ=>Z.1)
structure aW(G:Gd)(F:FZ)(ρ:List Addr)(cx:Cx)(X:List (Addr×Obj))(loc:bL):Prop where
 vars:∀i x v,cx.vis i=some x->loc[i]? =some (some v)->∃u,uP X cx.en x u/\WR G F ρ v u
 has:Dq cx X
theorem aW.bE(L:aW G F ρ cx X loc)(s:jF F F')(p:ρ <+:ρ'):aW G F' ρ' cx X loc:=
 ⟨λi x v h e=>let⟨u,a,b⟩:=L.vars i x v h e;⟨u,a,b.bE s p⟩,L.has⟩
theorem aW.mono(L:aW G F ρ cx X loc)(s:Sub F F')(p:ρ <+:ρ'):aW G F' ρ' cx X loc:=L.bE s.1 p
inductive FrE(X:List (Addr×Obj))(env:Env):Prop
 |mk (k:env.scope.kind≠ .module) (L:Addr) (o:Obj) (e:env.frame=some L) (m:(L,o) ∈ X) (b:nO (L,o)=true)
inductive iO(A:Around)(X:List (Addr×Obj)):Prop
 |mk (l:List Env) (e:A.frames=some l) (h:∀env ∈ l,FrE X env)
structure c8(A:Around)(N:Nat):Prop where
 hnd:A.handled=none
 dep:A.depth+4 * N+20 < recursionLimit
 uni:A.units+16 * N+60 < cLine
 bz:A.guards=some []
theorem c8.less(h:c8 A N)(hm:M<=N):c8 A M:=
 ⟨h.1,eG (oV (iR (vW 4 hm) _) _) h.2,eG (oV (iR (vW 16 hm) _) _) h.3,h.4⟩
theorem c8.in1(h:c8 A (N+1)):c8 A.in1 N:=
 ⟨h.1,(h.less (oR N)).2,eG (oV (by rw[Around.in1_units,oS,Nat.mul_add,ng 1];exact iR (iR (by decide) _) _) _) h.3,h.4⟩
inductive FlT(base h:Heap)(a C:Addr):Prop
 |tr (a0:Value) (t:h.TracedW base a (.ref C) a0)
 |own (a0:Value) (oe:Obj) (vs:Array Value) (g:h.get? a=some oe) (hc:oe.cls= .ref C) (hd:oe.data= .fields vs) (h1:vs[1]? =some .none) (h2:1 < vs.size) (h0:vs[0]? =some a0)
inductive Fl(G:Gd)(ah:Heap)(j4:Ex->Addr)(A:Around)(F:FZ)(ρ:List Addr)(objs:az)(X:List (Addr×Obj))(x:Ex)(e:Value)(h:Heap):Prop
 |mk (base:Heap) (l:List Env) (a:Addr) (he:e= .ref a) (hl:A.frames=some l) (hn:base.get? a=none) (ff:h.FunFrames base l) (st:base.StaysIn h) (S:SR G ah F ρ objs (X.filter λp=> !nO p) base)
   (hm:∀p ∈ X,nO p=true->base.get? p.1=none/\∃sl,h.get? p.1=some {p.2 with slots:=sl}) (t:FlT base h a (j4 x))
section
variable{G:Gd}{ah:Heap}(Fa:aP G ah)
noncomputable def aS{α β:Type}(rel:FZ->List Addr->α->β->Prop)(A:Around)(F:FZ)(ρ:List Addr)(X:List (Addr×Obj))(s:Shared)(Q:β->Shared->Prop)(E:Value->Shared->Prop):aR α->Prop
 | .ok v o=>∀u F' ρ' h' tk,Sub F F'->ρ <+:ρ'->SR G ah F' ρ' o X h'->rel F' ρ' v u->Q u {s with heap:=h',toks:=tk}
 | .exc x o=>∀e F' ρ' h' tk,Sub F F'->ρ <+:ρ'->Fl G ah Fa.j4 A F' ρ' o X x e h'->E e {s with heap:=h',toks:=tk}
 | .stuck=>False
variable{Fa}
theorem aS.mono
  (P:aS Fa rel A F ρ X s Q E r)(f:Sub F F')(p:ρ <+:ρ'):aS Fa rel A F' ρ' X {s with heap:=h,toks:=tk} Q E r:=by
 cases r with
 |ok v o=>exact λu cK bC h₂ t₂ a b c d=>P u cK bC h₂ t₂ (f.trans a) (p.trans b) c d
 |exc x o=>exact λu cK bC h₂ t₂ a b c=>P u cK bC h₂ t₂ (f.trans a) (p.trans b) c
 |stuck=>exact P
theorem aS.next
  (P:aS Fa rel' A F ρ X s Q E (r.bind f))
  (k:∀u a o F' ρ' h' tk,Sub F F'->ρ <+:ρ'->SR G ah F' ρ' o X h'->rel F' ρ' a u->aS Fa rel' A F' ρ' X {s with heap:=h',toks:=tk} Q E (f a o)->Q₁ u {s with heap:=h',toks:=tk}):aS Fa rel A F ρ X s Q₁ E r:=by
 cases r with
 |ok v o=>exact λu F' ρ' h' tk a b c d=>k u v o F' ρ' h' tk a b c d (aS.mono P a b)
 |exc x o=>exact P
 |stuck=>exact P
theorem aR.Rv(r:aR α)(f:α->az->aR β)(g:β->az->aR γ):(r.bind f).bind g=r.bind λa o=>(f a o).bind g:=by cases r<;>rfl
end
noncomputable abbrev DE:=bL->az->aR V
noncomputable abbrev DT:=bL->az->aR Bool
noncomputable def bT(_:FZ)(_:List Addr)(a b:Bool):Prop:=a=b
section
variable{G:Gd}{ah:Heap}(Fa:aP G ah)(N:Nat)(cx:Cx)
noncomputable def SE(e:PySem.Expr)(f:DE):Prop:=∀(A:Around)(s:Shared)(loc:bL)(objs:az)(F:FZ)(ρ:List Addr)(X:List (Addr×Obj))(Q:Value->Shared->Prop)(E:Value->Shared->Prop),
 c8 A N->iO A X->SR G ah F ρ objs X s.heap->aW G F ρ cx X loc->aS Fa (WR G) A F ρ X s Q E (f loc objs)->wpAny (model PR G.w) A (eval e cx.en) Q E s
noncomputable def ST(e:PySem.Expr)(f:DT):Prop:=∀(A:Around)(s:Shared)(loc:bL)(objs:az)(F:FZ)(ρ:List Addr)(X:List (Addr×Obj))(Q:Bool->Shared->Prop)(E:Value->Shared->Prop),
 c8 A N->iO A X->SR G ah F ρ objs X s.heap->aW G F ρ cx X loc->aS Fa bT A F ρ X s Q E (f loc objs)->wpAny (model PR G.w) A (isTrue e cx.en (eval e cx.en)) Q E s
noncomputable def zW(es:List PySem.Expr)(f:bL->az->aR (List V)):Prop:=∀(A:Around)(s:Shared)(loc:bL)(objs:az)(F:FZ)(ρ:List Addr)(X:List (Addr×Obj))(Q:List Value->Shared->Prop)(E:Value->Shared->Prop)(pos:Pos),
 c8 A N->iO A X->SR G ah F ρ objs X s.heap->aW G F ρ cx X loc->aS Fa (j_ G) A F ρ X s Q E (f loc objs)->wpAny (model PR G.w) A (spliced (backTo pos (starEach es cx.en))) Q E s
end
noncomputable def pT{G:Gd}{ah:Heap}(Fa:aP G ah)(N:Nat)(t:Value->Value->Sem Value)(f:V->V->az->aR V):Prop:=
 ∀(A:Around)(s:Shared)(objs:az)(F:FZ)(ρ:List Addr)(X:List (Addr×Obj))(Q:Value->Shared->Prop)(E:Value->Shared->Prop)(a b:V)(u v:Value),
 c8 A N->iO A X->SR G ah F ρ objs X s.heap->WR G F ρ a u->WR G F ρ b v->aS Fa (WR G) A F ρ X s Q E (f a b objs)->wpAny (model PR G.w) A (t u v) Q E s
noncomputable def adn{G:Gd}{ah:Heap}(Fa:aP G ah)(N:Nat)(t:Value->Sem Value)(f:V->az->aR V):Prop:=
 ∀(A:Around)(s:Shared)(objs:az)(F:FZ)(ρ:List Addr)(X:List (Addr×Obj))(Q:Value->Shared->Prop)(E:Value->Shared->Prop)(a:V)(u:Value),
 c8 A N->iO A X->SR G ah F ρ objs X s.heap->WR G F ρ a u->aS Fa (WR G) A F ρ X s Q E (f a objs)->wpAny (model PR G.w) A (t u) Q E s
section
variable{G:Gd}{ah:Heap}{Fa:aP G ah}{N:Nat}{cx:Cx}
theorem WV(S:SR G ah F ρ objs X h)(hm:(C,oC) ∈ X)(S':SR G ah F' ρ' objs' X' h')(hm':(C,oC) ∈ X')(ns:h.Ns C m):h'.Ns C m:=by
 obtain⟨o,es,ep,g1,g2,r⟩:=ns;obtain⟨a,ga,da⟩:=S.zB hm;obtain⟨b,gb,db⟩:=S'.zB hm';rw[ga]at g1;cases g1;exact⟨b,es,ep,gb,db.trans (da.symm.trans g2),r⟩
theorem SR.kY(S:SR G ah F ρ objs X h)(Fa:aP G ah):TopRead Fa.p Fa.loose Fa.mg Fa.mb h:=Fa.T.keeps λb o e=>S.stays _ _ (S.base b o e)
noncomputable def af(i:Nat):DE:=λloc o=>match loc[i]? with |some (some v)=> .ok v o |_=> .stuck
noncomputable def ai(v:D):DE:=λ_ o=> .ok (.d v) o
theorem zV(ok:CxOk cx)(hx:cx.vis i=some x):SE Fa N cx (.Name x pos) (af i):=by
 intro A s loc objs F ρ X Q E _ _ S L P;have e:af i loc objs=(match loc[i]? with |some (some v)=> .ok v objs |_=> .stuck):=rfl;rw[e]at P;rcases hv:loc[i]? with _ |_ |v<;>rw[hv]at P
 ·exact P.elim
 ·exact P.elim
 ·obtain⟨u,hu,hw⟩:=L.vars i x v hx hv;have q:Q u s:=P u F ρ s.heap s.toks (Sub.refl F) (fc ρ) S hw;refine wpAny_Name ?_ (ok.names i x hx).1;rcases hu with⟨hk,o,es,ep,hm,hd,hs,hf⟩ |⟨c,o,hk,hl,hm,hd⟩
  ·obtain⟨o',g,gd⟩:=S.zB hm;exact wpAny_loadName_local (m:=λy=>nsFind es y) ok.kind hk ⟨o',es,ep,g,gd.trans hd,hs,λZ=>rfl⟩ hf q
  ·obtain⟨o',g,gd⟩:=S.zB hm;rcases hk with hk |hk
   ·exact wpAny_loadName_cell ok.kind hk hl ⟨o',g,gd.trans hd⟩ q
   ·exact wpAny_loadName_free ok.kind hk hl ⟨o',g,gd.trans hd⟩ q (ok.names i x hx).2
theorem IU(ok:CxOk cx)(hk:cx.en.kindOf x=some .globalImplicit)(hx:(x==("__debug__":Str))=false)(hv:Fa.mg x=some v)(hr:∀F,(∀a o,ah.get? a=some o->F.1 a=some o)->VR G F d v):
  SE Fa N cx (.Name x pos) (ai d):=by
 intro A s loc objs F ρ X Q E _ _ S L P;refine Name_function_global ok.kind hk (loadGlobal_global (by rw[ok.glob];exact(S.kY Fa).g) hv ?_) hx;exact P v F ρ s.heap s.toks (Sub.refl F) (fc ρ) S (hr F S.base)
noncomputable def SG(Fa:aP G ah)(cx:Cx)(e:PySem.Expr)(v:Value):Prop:=∀(A:Around)(s:Shared)(F:FZ)(ρ:List Addr)(objs:az)(X:List (Addr×Obj))(Q:Value->Shared->Prop)(E:Value->Shared->Prop),
 SR G ah F ρ objs X s.heap->Q v s->wpAny (model PR G.w) A (eval e cx.en) Q E s
theorem kP(ok:CxOk cx)(hk:cx.en.kindOf x=some .globalImplicit)(hx:(x==("__debug__":Str))=false)(hv:Fa.mg x=some v):SG Fa cx (.Name x pos) v:=by
 intro A s F ρ objs X Q E S P;exact Name_function_global ok.kind hk (loadGlobal_global (by rw[ok.glob];exact(S.kY Fa).g) hv P) hx
theorem BR(ok:CxOk cx)(hk:cx.en.kindOf x=some .globalImplicit)(hx:(x==("__debug__":Str))=false)(hg:Fa.mg x=none)(hn:x≠"__name__")(hv:bootBuiltins x=some v):SG Fa cx (.Name x pos) v:=by
 intro A s F ρ objs X Q E S P;have T:=S.kY Fa;exact Name_function_global ok.kind hk (loadGlobal_builtin (by rw[ok.glob];exact T.g) hg (by rw[ok.blt];exact T.b) ((T.builtins x hn).trans hv) P) hx
theorem NT:SE Fa N cx (.Constant (.int i) k pos) (ai (.int i)):=by
 intro A s loc objs F ρ X Q E _ _ S L P;exact wpAny_Constant_int (P _ F ρ s.heap _ (Sub.refl F) (fc ρ) S ⟨_,rfl⟩)
theorem NS:SE Fa N cx (.Constant (.str i) k pos) (ai (.str i)):=by
 intro A s loc objs F ρ X Q E _ _ S L P;exact wpAny_Constant_str (P _ F ρ s.heap _ (Sub.refl F) (fc ρ) S ⟨_,rfl⟩)
theorem Qy:SE Fa N cx (.Constant .none k pos) (ai .none):=by
 intro A s loc objs F ρ X Q E _ _ S L P;exact wpAny_Constant_none (P _ F ρ s.heap s.toks (Sub.refl F) (fc ρ) S rfl)
theorem QC:SE Fa N cx (.Constant (.bool b) k pos) (ai (.bool b)):=by
 intro A s loc objs F ρ X Q E _ _ S L P;exact wpAny_Constant_bool (P _ F ρ s.heap s.toks (Sub.refl F) (fc ρ) S rfl)
theorem LZ(hz:b.toArray.size<=sizeLine):SE Fa N cx (.Constant (.bytes b) k pos) (ai (.bytes b)):=by
 intro A s loc objs F ρ X Q E _ _ S L P;have:=P (.bytes b.toArray s.toks) F ρ s.heap (s.toks+1) (Sub.refl F) (fc ρ) S ⟨_,rfl⟩;show wpAny _ _ (mkTextBytes b.toArray) _ _ _;exact wpAny_mkTextBytes this
noncomputable def aB(op:V->V->az->aR V)(f g:DE):DE:=λloc o=>(f loc o).bind λa o=>(g loc o).bind λb o=>op a b o
theorem rD
  (hl:SE Fa N cx l f)(hr:SE Fa N cx r g)(ho:pT Fa N q t)(R:c8 A N)(X':iO A X)(S:SR G ah F ρ objs X s.heap)(L:aW G F ρ cx X loc)(P:aS Fa (WR G) A F ρ X s Q E (aB t f g loc objs)):
  wpAny (model PR G.w) A (eval l cx.en) (λu s'=>wpAny (model PR G.w) A (eval r cx.en) (λv s''=>wpAny (model PR G.w) A (q u v) Q E s'') E s') E s:=
 hl A s loc objs F ρ X _ E R X' S L (aS.next P λu a o F' ρ' h' tk f1 p1 S1 w1 P1=>hr A _ loc o F' ρ' X _ E R X' S1 (L.mono f1 p1) (aS.next P1 λv b o' rJ kg h'' tk' f2 p2 S2 w2 P2=>
  ho A _ o' rJ kg X Q E a b u v R X' S2 (w1.mono f2 p2) w2 P2))
theorem Va(hl:SE Fa N cx l f)(hr:SE Fa N cx r g)(ho:pT Fa N (binaryOp op) t):SE Fa N cx (.BinOp l op r pos) (aB t f g):=
 λZ Z Z Z Z Z Z Z Z R X' S L P=>wpAny_BinOp (rD hl hr ho R X' S L P)
theorem U_(hl:SE Fa N cx l f)(hr:SE Fa N cx r g)(hm:behindInMarks op r=false)(ho:pT Fa N (compareOp op) t):SE Fa N cx (.Compare l [op] [r] pos) (aB t f g):=
 λZ Z Z Z Z Z Z Z Z R X' S L P=>wpAny_Compare1 (rD hl hr ho R X' S L P) hm
noncomputable def trD:D->Option Bool
 | .none=>some false
 | .bool b=>some b
 | .int i=>some (decide (i≠0))
 |_=>none
noncomputable def DG(v:V)(o:az):aR Bool:=alt ((kM v).bind trD) (λb=> .ok b o) (bx (bU o v) λl=>bz (c6 l.length) (.ok (!l.isEmpty) o))
noncomputable def YB{G:Gd}{ah:Heap}(Fa:aP G ah)(N:Nat):Prop:=
 ∀(A:Around)(s:Shared)(objs:az)(F:FZ)(ρ:List Addr)(X:List (Addr×Obj))(Q:Bool->Shared->Prop)(E:Value->Shared->Prop)(a:V)(u:Value),
 c8 A N->iO A X->SR G ah F ρ objs X s.heap->WR G F ρ a u->aS Fa bT A F ρ X s Q E (DG a objs)->wpAny (model PR G.w) A (truthy u) Q E s
noncomputable def dG(f:DE):DT:=λloc o=>(f loc o).bind DG
noncomputable def aE(op:V->V->az->aR V)(f g:DE):DT:=λloc o=>(aB op f g loc o).bind DG
theorem U3(ht:YB Fa N)(hl:SE Fa N cx l f)(hr:SE Fa N cx r g)(hm:behindInMarks op r=false)(ho:pT Fa N (compareOp op) t):ST Fa N cx (.Compare l [op] [r] pos) (aE t f g):=
 λA Z Z Z Z Z X Q E R X' S L P=>wpAny_isTrue_Compare1 (rD hl hr ho R X' S L (aS.next P λc k o F' ρ' Z Z Z Z S1 w1 P1=>ht A _ o F' ρ' X Q E k c R X' S1 w1 P1)) hm
theorem U0(ht:YB Fa N)(hf:SE Fa N cx e f)(he:∀whole,isTrue e cx.en whole=(do let v <-whole;standAt e.pos;holding [v] (truthy v))):ST Fa N cx e (dG f):=
 λA s loc objs F ρ X Q E R X' S L P=>wpAny_isTrue_value (hf A s loc objs F ρ X _ E R X' S L (aS.next P λu a o F' ρ' Z Z Z Z S1 w1 P1=>ht A _ o F' ρ' X Q E a u R X' S1 w1 P1)) (he _)
noncomputable def pM(f:DT):DT:=λloc o=>(f loc o).bind λb o=> .ok (!b) o
theorem U1(hf:ST Fa N cx e f):ST Fa N cx (.UnaryOp .Not e pos) (pM f):=
 λA s loc objs F ρ X Q E R X' S L P=>wpAny_isTrue_Not (hf A s loc objs F ρ X _ E R X' S L (aS.next P λu a o F' ρ' h' tk Z Z S1 w1 P1=>P1 (!u) F' ρ' h' tk (Sub.refl _) (fc _) S1 (congrArg _ w1)))
noncomputable def gS(f g:DT):DT:=λloc o=>(f loc o).bind λb o=>if b=true then g loc o else .ok false o
noncomputable def pL(f g:DT):DT:=λloc o=>(f loc o).bind λb o=>if b=true then .ok true o else g loc o
noncomputable def bN:DT:=λ_ o=> .ok true o
noncomputable def gR:DT:=λ_ o=> .ok false o
noncomputable def L0(Fa:aP G ah)(N:Nat)(cx:Cx)(op:BoolOp)(es:List PySem.Expr)(f:DT):Prop:=∀(A:Around)(s:Shared)(loc:bL)(objs:az)(F:FZ)(ρ:List Addr)(X:List (Addr×Obj))(Q:Bool->Shared->Prop)(E:Value->Shared->Prop),
 c8 A N->iO A X->SR G ah F ρ objs X s.heap->aW G F ρ cx X loc->aS Fa bT A F ρ X s Q E (f loc objs)->wpAny (model PR G.w) A (allTrue op es cx.en) Q E s
theorem BN:L0 Fa N cx .And [] bN:=λA s loc objs F ρ X Q E R X' S L P=>wpAny_allTrue_And_nil (P true F ρ s.heap s.toks (Sub.refl F) (fc ρ) S rfl)
theorem Eu:L0 Fa N cx .Or [] gR:=λA s loc objs F ρ X Q E R X' S L P=>wpAny_allTrue_Or_nil (P false F ρ s.heap s.toks (Sub.refl F) (fc ρ) S rfl)
theorem rQ{x y:az->aR γ}{H1 H2:Shared->Prop}
  (hf:ST Fa N cx e f)(R:c8 A N)(X':iO A X)(S:SR G ah F ρ objs X s.heap)(L:aW G F ρ cx X loc)(P:aS Fa rel A F ρ X s Q E ((f loc objs).bind λb o=>if b=true then x o else y o))
  (h1:∀o F' ρ' h' tk,Sub F F'->ρ <+:ρ'->SR G ah F' ρ' o X h'->aS Fa rel A F' ρ' X {s with heap:=h',toks:=tk} Q E (x o)->H1 {s with heap:=h',toks:=tk})
  (h2:∀o F' ρ' h' tk,Sub F F'->ρ <+:ρ'->SR G ah F' ρ' o X h'->aS Fa rel A F' ρ' X {s with heap:=h',toks:=tk} Q E (y o)->H2 {s with heap:=h',toks:=tk}):
  wpAny (model PR G.w) A (isTrue e cx.en (eval e cx.en)) (λb s'=>if b=true then H1 s' else H2 s') E s:=
 hf A s loc objs F ρ X _ E R X' S L (aS.next P λu a o F' ρ' h' tk f1 p1 S1 w1 P1=>by
  cases Eq.symm w1;clear w1;cases u with
  |true=>exact h1 o F' ρ' h' tk f1 p1 S1 P1
  |false=>exact h2 o F' ρ' h' tk f1 p1 S1 P1)
theorem aS.stay{s:Shared}(P:aS Fa rel A F ρ X {s with heap:=h,toks:=tk} Q E (.ok v o))(S:SR G ah F ρ o X h)(r:rel F ρ v u):Q u {s with heap:=h,toks:=tk}:=
 P u F ρ h tk (Sub.refl F) (fc ρ) S r
theorem zT{f g:DT}(hf:ST Fa N cx e f)(hg:L0 Fa N cx .And es g):L0 Fa N cx .And (e::es) (gS f g):=
 λA Z loc Z Z Z X Q E R X' S L P=>wpAny_allTrue_And_cons (rQ hf R X' S L P (λo F' ρ' Z Z f1 p1 S1 P1=>hg A _ loc o F' ρ' X Q E R X' S1 (L.mono f1 p1) P1) λZ Z Z Z Z Z Z S1 P1=>P1.stay S1 rfl)
theorem BL{f g:DT}(hf:ST Fa N cx e f)(hg:L0 Fa N cx .Or es g):L0 Fa N cx .Or (e::es) (pL f g):=
 λA Z loc Z Z Z X Q E R X' S L P=>wpAny_allTrue_Or_cons (rQ hf R X' S L P (λZ Z Z Z Z Z Z S1 P1=>P1.stay S1 rfl) λo F' ρ' Z Z f1 p1 S1 P1=>hg A _ loc o F' ρ' X Q E R X' S1 (L.mono f1 p1) P1)
theorem IL(hf:L0 Fa N cx op es f):ST Fa N cx (.BoolOp op es pos) f:=
 λA s loc objs F ρ X Q E R X' S L P=>wpAny_isTrue_BoolOp (hf A s loc objs F ρ X Q E R X' S L P)
noncomputable def eW(t:DT)(f g:DE):DE:=λloc o=>(t loc o).bind λb o=>if b=true then f loc o else g loc o
theorem U7{f g:DE}(ht:ST Fa N cx t k)(hf:SE Fa N cx b f)(hg:SE Fa N cx c g):SE Fa N cx (.IfExp t b c pos) (eW k f g):=
 λA Z loc Z Z Z X Q E R X' S L P=>wpAny_IfExp (rQ ht R X' S L P (λo F' ρ' Z Z f1 p1 S1 P1=>hf A _ loc o F' ρ' X Q E R X' S1 (L.mono f1 p1) P1) λo F' ρ' Z Z f1 p1 S1 P1=>hg A _ loc o F' ρ' X Q E R X' S1 (L.mono f1 p1) P1)
end
section
variable{G:Gd}{ah:Heap}{Fa:aP G ah}{F:FZ}{ρ:List Addr}{X:List (Addr×Obj)}{A:Around}{s:Shared}{α β δ:Type}{rel:FZ->List Addr->β->δ->Prop}{Q:δ->Shared->Prop}{E:Value->Shared->Prop}{G':Prop}
theorem aS.bx(P:aS Fa rel A F ρ X s Q E (bx x f))(k:∀a,x=some a->aS Fa rel A F ρ X s Q E (f a)->G'):G':=by
 cases x with
 |some a=>exact k a rfl P
 |none=>exact P.elim
theorem aS.alt(P:aS Fa rel A F ρ X s Q E (alt x f z))(k:∀a,x=some a->aS Fa rel A F ρ X s Q E (f a)->G')(k':aS Fa rel A F ρ X s Q E z->G'):G':=by
 cases x with
 |some a=>exact k a rfl P
 |none=>exact k' P
theorem aS.bz(P:aS Fa rel A F ρ X s Q E (bz b r)):b=true/\aS Fa rel A F ρ X s Q E r:=by
 cases b with
 |true=>exact⟨rfl,P⟩
 |false=>exact P.elim
end
theorem aK{G':Prop}(h:(Option.none:Option α)=some a):G':=by cases h
theorem e_{x:D}(h:kM v=some x):v= .d x:=by cases v<;>first |exact congrArg _ (iQ h) |exact aK h
theorem iB{d:D}{i:Int}(h:d.int?=some i):d= .int i:=by cases d<;>first |exact congrArg _ (iQ h) |exact aK h
theorem k_{d:D}{i:Str}(h:d.DJ=some i):d= .str i:=by cases d<;>first |exact congrArg _ (iQ h) |exact aK h
theorem fY{d:D}{i:List UInt8}(h:d.pQ=some i):d= .bytes i:=by cases d<;>first |exact congrArg _ (iQ h) |exact aK h
theorem mQ{d:D}{i:List D}(h:d.AB=some i):d= .tup i:=by cases d<;>first |exact congrArg _ (iQ h) |exact aK h
theorem rq{d:D}{i:List D}(h:d.yR=some i):d= .list i:=by cases d<;>first |exact congrArg _ (iQ h) |exact aK h
theorem DB{α:Type}{f:D->Option α}{k:α->D}{a:α}(hf:∀{d a},f d=some a->d=k a)(h:(kM v).bind f=some a):v= .d (k a):=by
 obtain⟨d,h1,h2⟩:=bS h;exact(e_ h1).trans (congrArg _ (hf h2))
theorem wU{x:aH}{l:List D}(h:x.yR=some l):x= .list l:=by cases x<;>first |exact congrArg _ (iQ h) |exact aK h
theorem Ls{x:aH}{l:List (aG×D)}(h:x.H8=some (t,l)):x= .dict t l:=by cases x<;>first |exact aK h |(cases h;rfl)
section
variable{G:Gd}{ah:Heap}{Fa:aP G ah}{N:Nat}{F:FZ}{ρ:List Addr}{objs:az}{X:List (Addr×Obj)}{h:Heap}{v:V}{u:Value}
theorem WR.int{i:Int}(w:WR G F ρ v u)(e:jC v=some i):∃t,u= .int i t:=by rw[DB iB e]at w;exact w
theorem WR.str{i:Str}(w:WR G F ρ v u)(e:WC v=some i):∃t,u= .str i t:=by rw[DB k_ e]at w;exact w
theorem WR.EM{i:List UInt8}(w:WR G F ρ v u)(e:q7 v=some i):∃t,u= .bytes i.toArray t:=by rw[DB fY e]at w;exact w
theorem WR.tup{i:List D}(w:WR G F ρ v u)(e:n8 v=some i):gy F fO (cG G F i) u:=by rw[DB mQ e]at w;exact w
theorem WR.lst{i:List D}(w:WR G F ρ v u)(e:GJ v=some i):gy F dF (cG G F i) u:=by rw[DB rq e]at w;exact w
theorem SR.sD(S:SR G ah F ρ objs X h)(Fa:aP G ah)(e:F.1 a=none):(a==sysModules)=false:=by
 cases q:a==sysModules with
 |false=>rfl
 |true=>
  obtain⟨o,ho⟩:=Fa.sm;rw[beq_iff_eq.mp q,S.base _ _ ho]at e;cases e
inductive NV(G:Gd)(F:FZ)(h:Heap)(x:aH)(u:Value):Prop
 |mk (a:Addr) (o:Obj) (e:u= .ref a) (g:h.get? a=some o) (r:OR G F a x o) (n:(∀l,x≠ .list l)->(a==sysModules)=false)
theorem OR.rO:∀{y:aH},OR G F a y o->OR G F a (rO y) o:=λ{y} r=>by
 cases y<;>first |exact r |exact r.2
theorem VR.obj(S:SR G ah F ρ objs X h)(d:D){x:aH}(e:d.obj?=some x)(w:VR G F d u):NV G F h x u:=by
 cases d<;>first |exact aK e |skip
 ·cases e;exact w.rec λa vs ep e h r=>⟨a,_,e,S.stays _ _ h,⟨vs,ep,rfl,r⟩,λq=>absurd rfl (q _)⟩
 ·cases e;exact w.rec λa vs ep e n1 n2 h r=>⟨a,_,e,S.stays _ _ h,⟨vs,ep,rfl,r,n2⟩,λZ=>n1⟩
theorem SR.C_(S:SR G ah F ρ objs X h)(Fa:aP G ah)(hx:x≠ .dead){v:V}(w:WR G F ρ v u)(e:Gl objs v=some x):NV G F h x u:=by
 cases v<;>first |exact aK e |skip
 ·exact VR.obj S _ e w
 ·obtain⟨y,h1,h2⟩:=mS e;refine w.rec λa ha eu=> ?_;obtain⟨⟨o,g,r⟩,hN⟩:=S.addr h1 (λq=>hx (by rw[<-h2,q];rfl)) ha;exact⟨a,o,eu,g,h2▸r.rO,λZ=>S.sD Fa hN⟩
inductive QU(G:Gd)(F:FZ)(h:Heap)(l:List D)(u:Value):Prop
 |mk (a:Addr) (vs:List Value) (ep:Nat) (e:u= .ref a) (g:h.get? a=some (dF vs ep)) (r:cG G F l vs)
theorem SR.bU(S:SR G ah F ρ objs X h)(Fa:aP G ah){l:List D}(hw:WR G F ρ v u)(e:bU objs v=some l):QU G F h l u:=by
 obtain⟨x,e1,e2⟩:=bS e;cases wU e2;exact(S.C_ Fa (λq=>aH.noConfusion q) hw e1).rec λa o e g r Z=>r.rec λvs ep eo r=>⟨a,vs,ep,e,eo▸g,r⟩
structure KV(G:Gd)(F:FZ)(l:List (aG×D))(kvs:List (aG×Value)):Prop where
 keys:kvs.map (λZ=>Z.1)=l.map (λZ=>Z.1)
 vals:cG G F (l.map (λZ=>Z.2)) (kvs.map (λZ=>Z.2))
theorem KV.mono(s:Sub F F')(k:KV G F l kvs):KV G F' l kvs:=⟨k.1,k.2.mono s⟩
theorem KV.cons{v:Value}(x:VR G F d v)(r:KV G F l kvs):KV G F ((k,d)::l) ((k,v)::kvs):=⟨congrArg (λZ=>k::Z) r.1,⟨v,_,rfl,x,r.2⟩⟩
inductive YQ(G:Gd)(F:FZ)(t:KT)(l:List (aG×D))(es:List DictEntry):Prop
 |mk (kvs:List (aG×Value)) (p:Pairs (cJ G.w t) es kvs) (q:KV G F l kvs) (z:∀e ∈ es,∃k,(cJ G.w t).is k e.key=true/\e.hash=(cJ G.w t).hash k)
theorem ue.pairs:∀{l:List (aG×D)}{es:List DictEntry},ue G F t l es->YQ G F t l es
 | [],_,h=>by cases h;exact⟨[], .nil,⟨rfl,rfl⟩,λZ he=>nomatch he⟩
 |(k,d)::r,_,h=>h.rec λx es' e h1 h4=>by
  clear h;subst e;exact(ue.pairs h4).rec λkvs p q z=>⟨(k,x.val)::kvs, .cons h1.1 rfl p,q.cons h1.3,λe he=>by rcases cN.mp he with rfl |he;exact⟨k,h1.1,h1.2⟩;exact z e he⟩
theorem ue.Gh(p:Pairs (cJ G.w t) es kvs):∀{l:List (aG×D)},KeysOf (cJ G.w t) es.toArray->KV G F l kvs->ue G F t l es:=by
 induction p with
 |nil=>
  intro l _ h;rcases l with _ |⟨x,l⟩
  ·rfl
  ·cases h.1
 | @cons e kv es kvs a b c ih=>
  intro l z h;rcases l with _ |⟨⟨k,d⟩,l⟩
  ·cases h.1
  obtain⟨e1,e2⟩:=nY h.1;refine h.2.rec λu us e3 e4 e5=> ?_;obtain⟨e6,e7⟩:=nY e3;have e1:kv.1=k:=e1;have e6:kv.2=u:=e6;clear e3 h;subst e1;subst e6;obtain⟨k2,y1,y2⟩:=z e (Array.mem_def.mpr (.head _));exact⟨e,es,rfl,⟨a,(cJ G.w t).inj _ _ _ a y1▸y2,b▸e4⟩,ih (λe' he'=>z e' (Array.mem_def.mpr (.tail _ (Array.mem_def.mp he')))) ⟨e2,e7▸e5⟩⟩
inductive Q9(G:Gd)(F:FZ)(h:Heap)(t:KT)(l:List (aG×D))(u:Value):Prop
 |mk (a:Addr) (kvs:List (aG×Value)) (e:u= .ref a) (n1:(a==sysModules)=false) (d:h.DictOf (cJ G.w t) a kvs) (k:KV G F l kvs) (nd:(l.map (λZ=>Z.1)).Nodup)
theorem SR.cH(S:SR G ah F ρ objs X h)(Fa:aP G ah){t:KT}(hw:WR G F ρ v u)(e:cH objs v=some (t,l)):Q9 G F h t l u:=by
 obtain⟨x,e1,e2⟩:=bS e;cases Ls e2;exact(S.C_ Fa (λq=>aH.noConfusion q) hw e1).rec λa o eu g r n=>r.rec λes ep eo r nd=>r.pairs.rec λkvs p q z=>
  ⟨a,kvs,eu,n λZ q=>aH.noConfusion q,⟨o,es.toArray,ep,g,eo▸⟨rfl,rfl,rfl⟩,eo▸rfl,λe he=>z e (Array.mem_def.mp he),p,q.1▸nd⟩,q,nd⟩
theorem cG.append(h':cG G F l' vs'):∀{l:List D}{vs:List Value},cG G F l vs->cG G F (l++l') (vs++vs')
 | [],_,h=>by cases h;exact h'
 |_::_,_,h=>h.rec λu us e a b=>⟨u,us++vs',by rw[e];rfl,a,cG.append h' b⟩
theorem cG.length:∀{l:List D}{vs:List Value},cG G F l vs->vs.length=l.length
 | [],_,h=>congrArg List.length h
 |_::l,_,h=>h.rec λu us e a b=>by rw[e];exact congrArg (λZ=>Z+1) (cG.length b)
theorem cG.get:∀{l:List D}{vs:List Value}{i:Nat}{d:D},cG G F l vs->l[i]? =some d->∃v,vs[i]? =some v/\VR G F d v
 | [],_,_,_,_,hi=>by cases hi
 |_::_,_,0,_,r,hi=>by cases hi;exact r.rec λu us e a b=>⟨u,by rw[e];rfl,a⟩
 |_::_,_,i+1,_,r,hi=>r.rec λu us e a b=>by rw[e];exact cG.get (i:=i) b hi
theorem aS.done{v:α}{u:β}
  (P:aS Fa rel A F ρ X s Q E (.ok v objs))(S:SR G ah F ρ objs X s.heap)(r:rel F ρ v u):Q u {s with toks:=tk}:=P u F ρ s.heap tk (Sub.refl F) (fc ρ) S r
theorem aS.done'{v:α}{u:β}
  (P:aS Fa rel A F ρ X s Q E (.ok v objs))(S:SR G ah F ρ objs X s.heap)(r:rel F ρ v u):Q u s:=P.done (tk:=s.toks) S r
theorem aS.newF
  (P:aS Fa (WR G) A F ρ X s Q E (.ok v objs))(S:SR G ah F ρ objs X s.heap)(hf:o.isFreed=false)(r:WR G (uB F s.heap.objs.size o) ρ v (.ref s.heap.objs.size)):Q (.ref s.heap.objs.size) {s with heap:=s.heap.push o,toks:=tk}:=
 P _ _ ρ _ _ (bM o S.br) (fc ρ) (S.oB hf) r
theorem aS.A7(P:aS Fa (WR G) A F ρ X s Q E (.ok (.d (.list l)) objs))(S:SR G ah F ρ objs X s.heap)(r:cG G F l vs):
  Q (.ref s.heap.objs.size) {s with heap:=s.heap.push (dF vs 0)}:=aS.newF (tk:=s.toks) P S rfl ⟨_,vs,0,rfl,cj ..,r.mono (bM _ S.br)⟩
theorem aS.A6(P:aS Fa (WR G) A F ρ X s Q E (.ok (.d (.tup l)) objs))(S:SR G ah F ρ objs X s.heap)(r:cG G F l vs):
  Q (.ref s.heap.objs.size) {s with heap:=s.heap.push (fO vs 0)}:=aS.newF (tk:=s.toks) P S rfl ⟨_,vs,0,rfl,cj ..,r.mono (bM _ S.br)⟩
end
theorem fk(h:c6 n=true):n<=1000000:=g7 h
theorem dM(h:c6 n=true):n<=sizeLine:=cS (fk h) (by decide)
noncomputable def small(a:Int):Bool:=decide (-(2 ^ 200)<=a)&&decide (a<=2 ^ 200)
noncomputable def om(a b:Int):Bool:= !(decide (Builtin.Int.intBits a > shortFactorBits)&&decide (Builtin.Int.intBits b > shortFactorBits)&&Builtin.Int.intTooBig ((Builtin.Int.intBits a:Int)+(Builtin.Int.intBits b:Int)))
theorem GB(h:om a b=true):IntMulOk a b:=λq=>by unfold om at h;rw[q]at h;cases h
noncomputable def q6(f:Int->Int->aR V)(a b:V):aR V:=bx (jC a) λx=>bx (jC b) λy=>f x y
noncomputable def pU(i:Int)(o:az):aR V:= .ok (.d (.int i)) o
noncomputable def cF(a b:V)(o:az):aR V:=alt (jC a) (λx=>bx (jC b) λy=>pU (x+y) o)<|
 alt (q7 a) (λx=>bx (q7 b) λy=>bz (c6 (x.length+y.length)) (.ok (.d (.bytes (x++y))) o))<|
 alt (n8 a) (λx=>bx (n8 b) λy=>bz (c6 (x.length+y.length)) (.ok (.d (.tup (x++y))) o))<|
 bx (bU o a) λx=>bx (bU o b) λy=>bz (c6 (x.length+y.length)) (.ok (.d (.list (x++y))) o)
noncomputable def j6(a b:V)(o:az):aR V:=q6 (λx y=>pU (x - y) o) a b
noncomputable def iY(a b:V)(o:az):aR V:=alt (jC a) (λx=>bx (jC b) λy=>bz (om x y) (pU (x * y) o))<|
 bx (GJ a) λl=>bx (jC b) λn=>bz (decide (0<=n/\n<=1000)&&c6 (l.length * 1000)) (.ok (.d (.list (List.flatten (List.replicate n.toNat l)))) o)
noncomputable def j7(a b:V)(o:az):aR V:=q6 (λx y=>bz (decide (y≠0/\Builtin.divisionGoesByPylong x y=false)) (pU (x.fdiv y) o)) a b
noncomputable def jj(a b:V)(o:az):aR V:=q6 (λx y=>bz (decide (y≠0)) (pU (x.fmod y) o)) a b
noncomputable def zF(a b:V)(o:az):aR V:=q6 (λx n=>bz (decide (0<=n/\(Builtin.Int.intBits x:Int) * n<=2 ^ 27)) (pU (x ^ n.toNat) o)) a b
noncomputable def tL(a b:V)(o:az):aR V:=q6 (λx y=>pU (Builtin.bitAnd x y) o) a b
noncomputable def Ei(a b:V)(o:az):aR V:=q6 (λx y=>pU (Builtin.bitOr x y) o) a b
noncomputable def zJ(a b:V)(o:az):aR V:=q6 (λx y=>pU (Builtin.bitXor x y) o) a b
noncomputable def Lw(a b:V)(o:az):aR V:=q6 (λx n=>bz (decide (0<=n/\(Builtin.Int.intBits x:Int)+n<=2 ^ 27)) (pU (x * 2 ^ n.toNat) o)) a b
noncomputable def Lv(a b:V)(o:az):aR V:=q6 (λx n=>bz (decide (0<=n)) (pU (x.fdiv (2 ^ n.toNat)) o)) a b
section
variable{G:Gd}{ah:Heap}{Fa:aP G ah}{N:Nat}
theorem gI{f:Int->Int->az->aR V}(h:∀{A s objs F ρ X}{Q:Value->Shared->Prop}{E:Value->Shared->Prop}{x y t t'},SR G ah F ρ objs X s.heap->aS Fa (WR G) A F ρ X s Q E (f x y objs)->wpAny (model PR G.w) A (q (.int x t) (.int y t')) Q E s):
  pT Fa N q (λa b o=>q6 (λx y=>f x y o) a b):=λZ Z Z Z Z Z Z Z a b u v Z Z S wa wb P=>P.bx λx hx P=>P.bx λy hy P=>by
 obtain⟨t,rfl⟩:=wa.int hx;obtain⟨t',rfl⟩:=wb.int hy;exact h S P
theorem O3:pT Fa N (binaryOp .Sub) j6:=gI λS P=>sub_int (P.done S ⟨_,rfl⟩)
theorem Pb:pT Fa N (binaryOp .Mod) jj:=gI λS P=>mod_int' (iD P.bz.1) (P.bz.2.done S ⟨_,rfl⟩)
theorem Pc:pT Fa N (binaryOp .FloorDiv) j7:=gI λS P=>floordiv_int (iD P.bz.1).1 (P.bz.2.done S ⟨_,rfl⟩) (.inl (iD P.bz.1).2)
theorem O_:pT Fa N (binaryOp .Pow) zF:=gI λS P=>pow_int (iD P.bz.1).1 (iD P.bz.1).2 (P.bz.2.done S ⟨_,rfl⟩)
theorem O9:pT Fa N (binaryOp .LShift) Lw:=gI λS P=>lshift_int (iD P.bz.1).1 (iD P.bz.1).2 (P.bz.2.done S ⟨_,rfl⟩)
theorem O7:pT Fa N (binaryOp .RShift) Lv:=gI λS P=>rshift_int (iD P.bz.1) (P.bz.2.done S ⟨_,rfl⟩)
theorem Ks:pT Fa N (binaryOp .BitAnd) tL:=gI λS P=>and_int (P.done S ⟨_,rfl⟩)
theorem Pd:pT Fa N (binaryOp .BitOr) Ei:=gI λS P=>or_int (P.done S ⟨_,rfl⟩)
theorem Kr:pT Fa N (binaryOp .BitXor) zJ:=gI λS P=>xor_int (P.done S ⟨_,rfl⟩)
theorem cG.flat(r:cG G F l vs):∀n:Nat,cG G F (List.flatten (List.replicate n l)) (List.flatten (List.replicate n vs))
 | 0=>rfl
 |n+1=>cG.append (cG.flat r n) r
theorem Ed(l:List (Array Value))(a:Array Value):l.foldl (λx y=>x++y) a=a++((l.map Array.toList).flatten).toArray:=by
 induction l generalizing a with
 |nil=>exact(Array.append_empty).symm
 |cons x l ih=>rw[List.foldl_cons,ih,qY,List.flatten_cons];apply Array.ext';simp
theorem GA(ha':s.heap.get? a=some (dF vs ep))(h0:0<=n)(h1:n<=1000)(h2:vs.length * 1000<=1000000)
  (h:Q (.ref s.heap.objs.size) {s with heap:=s.heap.push (dF (List.flatten (List.replicate n.toNat vs)) 0)}):wpAny (model PR G.w) A (binaryOp .Mult (.ref a) (.int n t')) Q E s:=by
 have hz:vs.length * n.toNat<=16777216:=cS (vW _ (Int.toNat_le.mpr h1)) (cS h2 (by decide));have e:Array.flatten #[]=(#[]:Array Value):=rfl;refine wpAny_binaryOp_repeat_ref (T:="list") (U:="int") (by decide) ⟨_,ha',rfl⟩ (λs'=>typeIs_int s' n t') noFill_list_mul PySem.F.fills_int_mul PySem.F.slot_int_rmul repeat_list PySem.F.slot_int_index.lookup
  (call_meets PySem.F.slot_int_rmul (typeIs_int s n t') PySem.F.entry_int_rmul (PySem.F.args_int_rmul_2 _ _) (int___rmul___int_list n t' a vs.toArray ep)
   ⟨ha',rfl,⟨_,ha',rfl⟩,call_meets PySem.F.slot_list_mul ⟨_,ha',rfl⟩ PySem.F.entry_list_mul (PySem.F.args_list_mul_2 _ _)
    (AutoListH.list___mul___list_int_3 a vs.toArray ep n t' (by simp[Builtin.List.listFitsIndex];exact⟨Int.le_trans (by decide) h0,Int.lt_of_le_of_lt h1 (by decide)⟩) (by rw[List.size_toArray];exact Nat.not_lt.mpr (Nat.le_trans hz (by decide))) (by simp[Builtin.List.listTooLong,sizeLine];assumption))
    ⟨ha', ?_⟩⟩)
 refine cast ?_ h
 congr 4
 rw[Ed]
 by_cases q:vs=[]
 ·clear hz h h2 ha';subst q;simp
 ·simp[q]
theorem xJ(ho:s.heap.get? l=some (dF vs n))(ho2:s.heap.get? b=some (dF ws n2))(hsz:vs.length+ws.length<=sizeLine)
  (h:Q (.ref s.heap.objs.size) {s with heap:=s.heap.push (dF (vs++ws) 0)}):wpAny (model PR G.w) A (binaryOp .Add (.ref l) (.ref b)) Q E s:=by
 have e:vs.toArray++ws.toArray=(vs++ws).toArray:=by simp
 refine concat_meets ⟨_,ho,rfl⟩ ⟨_,ho2,rfl⟩ noFill_list_add seq_list_add PySem.F.slot_list_add PySem.F.entry_list_add (PySem.F.args_list_add_2 _ _) (list_addW l b vs.toArray ws.toArray n n2 none none #[] #[] (by simpa using hsz)) ⟨ho,ho2, ?_⟩;rw[e];exact h
theorem uN(ho:s.heap.get? t=some (fO vs n))(ho2:s.heap.get? b=some (fO ws n2))(hsz:vs.length+ws.length<=sizeLine)
  (h0:vs=[]->Q (.ref b) s)(h1:vs≠[]->ws=[]->Q (.ref t) s)(h2:Q (.ref s.heap.objs.size) {s with heap:=s.heap.push (fO (vs++ws) 0)}):wpAny (model PR G.w) A (binaryOp .Add (.ref t) (.ref b)) Q E s:=by
 have e:vs.toArray++ws.toArray=(vs++ws).toArray:=by simp
 by_cases hv:vs=[]
 ·exact concat_meets ⟨_,ho,rfl⟩ ⟨_,ho2,rfl⟩ noFill_tuple_add seq_tuple_add PySem.F.slot_tuple_add PySem.F.entry_tuple_add (PySem.F.args_tuple_add_2 _ _)
   (tuple_addW0 t b vs.toArray ws.toArray n n2 none none #[] #[] (by simp[hv])) ⟨ho,ho2,h0 hv⟩
 ·by_cases hw:ws=[]
  ·exact concat_meets ⟨_,ho,rfl⟩ ⟨_,ho2,rfl⟩ noFill_tuple_add seq_tuple_add PySem.F.slot_tuple_add PySem.F.entry_tuple_add (PySem.F.args_tuple_add_2 _ _)
    (tuple_addW1 t b vs.toArray ws.toArray n n2 none none #[] #[] (by simpa using hv) (by simp[hw])) ⟨ho,ho2,h1 hv hw⟩
  ·refine concat_meets ⟨_,ho,rfl⟩ ⟨_,ho2,rfl⟩ noFill_tuple_add seq_tuple_add PySem.F.slot_tuple_add PySem.F.entry_tuple_add (PySem.F.args_tuple_add_2 _ _)
    (tuple_addW2 t b vs.toArray ws.toArray n n2 none none #[] #[] (by simpa using hv) (by simpa using hw) (by rw[List.size_toArray,List.size_toArray];exact hsz)) ⟨ho,ho2, ?_⟩
   rw[e];exact h2
theorem Pe:pT Fa N (binaryOp .Add) cF:=λA s objs F ρ X Q E a b u v R X' S wa wb P=>P.alt
 (λx hx P=>P.bx λy hy P=>by
  obtain⟨t,rfl⟩:=wa.int hx;obtain⟨t',rfl⟩:=wb.int hy;exact add_int (P.done S ⟨_,rfl⟩)) λP=>P.alt
 (λx hx P=>P.bx λy hy P=>by
  obtain⟨t,rfl⟩:=wa.EM hx;obtain⟨t',rfl⟩:=wb.EM hy;exact PySem.W.KBy.add_bytes (dM P.bz.1) λt' k=>P.bz.2.done S ⟨t',by rw[List.append_toArray]⟩) λP=>P.alt
 (λx hx P=>P.bx λy hy P=>(wa.tup hx).rec λa vs ep e ha ra=>(wb.tup hy).rec λb ws oG e' hb rb=>by
  subst e;subst e';have hn:vs.length+ws.length<=sizeLine:=by rw[ra.length,rb.length];exact dM P.bz.1
  have P:=P.bz.2;refine uN (S.stays _ _ ha) (S.stays _ _ hb) hn (λe=> ?_) (λZ e=> ?_) (P.A6 S (cG.append rb ra))
  ·clear ha;subst e;exact P.done' S ⟨b,ws,oG,rfl,hb,cG.append rb ra⟩
  ·clear hn hb oG;subst e;exact P.done' S ⟨a,vs,ep,rfl,ha,by have:=cG.append rb ra;rw[fC]at this;exact this⟩) λP=>
 P.bx λx hx P=>P.bx λy hy P=>(S.bU Fa wa hx).rec λa vs ep e ha ra=>(S.bU Fa wb hy).rec λb ws oG e' hb rb=>by
  subst e;subst e';exact xJ ha hb (by rw[ra.length,rb.length];exact dM P.bz.1) (P.bz.2.A7 S (cG.append rb ra))
end
noncomputable def D.isNone:D->Bool
 | .none=>true
 |_=>false
noncomputable def iz(f:D->D->Option Bool):List D->List D->Option Bool
 |a::l,b::l'=>(f a b).bind λx=>(iz f l l').map λy=>x&&y
 |_,_=>some true
noncomputable def Uw(a b:D):Option Bool:=match a with
 | .none=>if b.isNone=true then some true else none
 | .int x=>b.int?.map λy=>decide (x=y)
 | .str x=>b.DJ.map λy=>decide (x=y)
 | .bytes x=>b.pQ.map λy=>decide (x=y)
 |_=>none
noncomputable def jM:Nat->D->D->Option Bool
 | 0,a,b=>Uw a b
 |k+1,a,b=>match a with
  | .tup l=>b.AB.bind λl'=>(iz (jM k) l l').map λr=>r&&decide (l.length=l'.length)
  | .list l=>b.yR.bind λl'=>if l.length=l'.length then iz (jM k) l l' else some false
  |a=>Uw a b
noncomputable def Uy(f:D->D->Option Bool)(l l':List D)(j:Nat):Bool:=(l[j]?.bind λx=>l'[j]?.bind λy=>f x y).getD true
theorem qR(h:iz f (a::l) (b::l')=some r):∃x y,f a b=some x/\iz f l l'=some y/\r=(x&&y):=by
 obtain⟨x,h1,h2⟩:=bS h;obtain⟨y,h3,h4⟩:=mS h2;exact⟨x,y,h1,h3,h4.symm⟩
theorem mH(f:D->D->Option Bool):∀{l l':List D}{r:Bool},iz f l l'=some r->r=(List.range (min l.length l'.length)).all (Uy f l l')/\∀(j:Nat)(x y:D),l[j]? =some x->l'[j]? =some y->f x y=some (Uy f l l' j)
 | [],l',r,h=>by cases h;rw[nj,Nat.zero_min];exact⟨rfl,λj x y e=>aK e⟩
 |_::_,[],r,h=>by cases h;exact⟨rfl,λj x y Z e=>aK e⟩
 |a::l,b::l',r,h=>by
  obtain⟨x,y,h1,h2,rfl⟩:=qR h;obtain⟨i1,i2⟩:=mH f h2;have h0:Uy f (a::l) (b::l') 0=x:=congrArg (λZ=>Option.getD Z true) h1;refine⟨?_,λj u v hu hv=> ?_⟩
  ·rw[jS,jS,Nat.add_min_add_right,List.range_succ_eq_map,List.all_cons,List.all_map,i1,h0];rfl
  ·cases j with
   |zero=>cases hu;cases hv;rw[h0];exact h1
   |succ j=>exact i2 j u v hu hv
section
variable{G:Gd}{ah:Heap}{Fa:aP G ah}{N:Nat}{F:FZ}
theorem SV(a b:List UInt8):(a==b)=decide (a=b):=by rw[Bool.eq_iff_iff,beq_iff_eq,decide_eq_true_iff]
structure I4(A:Around)(s:Shared)(u v:Value)(r:Bool):Prop where
 rc:SeqAt.RcAt A s u v r
 ne:SeqAt.RcNeAt A s u v (!r)
 eq:SeqAt.EqAt A s u v r
theorem OT:I4 A s (.int a t) (.int b t') (decide (a=b)):=
 ⟨λZ Z Z Z h=>PyProof.Rows.eq_int h,SeqAt.RcNeAt.int_int a t b t',λp w Z Z h=>(intKind p w).eqBool (lQ a) (lQ b) h⟩
theorem OS:I4 A s (.str a t) (.str b t') (decide (a=b)):=
 ⟨λZ Z Z Z h=>PyProof.Rows.eq_str h,SeqAt.RcNeAt.str_str a t b t',λp w Z Z h=>(PySem.strKind p w).eqBool (lQ a) (lQ b) h⟩
theorem FT{a b:List UInt8}:I4 A s (.bytes a.toArray t) (.bytes b.toArray t') (decide (a=b)):=
 ⟨λZ Z Z Q h=>PySem.W.eq_bytes (by show Q (.bool (a==b)) s;rw[SV];exact h),λZ Z Z Q h=>PySem.W.ne_bytes (by show Q (.bool (!(a==b))) s;rw[SV];exact h),λZ Z Z Z h=>eqBool_bytes h⟩
theorem Ke:I4 A s .none .none true:=⟨λZ Z Z Z h=>EqNone.eq_none_none h,SeqAt.RcNeAt.none_none,SeqAt.EqAt.same _⟩
theorem yL{d:D}(h:d.isNone=true):d= .none:=by cases d<;>first |rfl |exact Bool.noConfusion h
theorem jN[Decidable p](h:p):decide p=true:=cM h
theorem xA{u v:Value}(h1:VR G F d u)(h2:VR G F d' v)(e:Uw d d'=some r):(∀A s,I4 A s u v r)/\(u=v->r=true):=by
 cases d<;>first |exact aK e |skip
 ·have e:(if d'.isNone=true then some true else none)=some r:=e;split at e
  ·rename_i q;cases yL q;cases h1;cases h2;cases e;exact⟨λZ Z=>Ke,λZ=>rfl⟩
  ·exact aK e
 ·obtain⟨y,e1,rfl⟩:=mS e;clear e;cases iB e1;obtain⟨t,rfl⟩:=h1;obtain⟨t',rfl⟩:=h2;exact⟨λZ Z=>OT,λq=>jN (Value.int.inj q).1⟩
 ·obtain⟨y,e1,rfl⟩:=mS e;clear e;cases k_ e1;obtain⟨t,rfl⟩:=h1;obtain⟨t',rfl⟩:=h2;exact⟨λZ Z=>OS,λq=>jN (Value.str.inj q).1⟩
 ·obtain⟨y,e1,rfl⟩:=mS e;clear e;cases fY e1;obtain⟨t,rfl⟩:=h1;obtain⟨t',rfl⟩:=h2;exact⟨λZ Z=>FT,λq=>jN (List.toArray_inj (Value.bytes.inj q).1)⟩
theorem rM(f:D->D->Option Bool)(hf:∀{d d':D}{u:Value}{r:Bool},VR G F d u->VR G F d' u->f d d'=some r->r=true):∀{l l':List D}{vs:List Value}{r:Bool},cG G F l vs->cG G F l' vs->iz f l l'=some r->r=true
 | [],_,_,_,_,_,e=>(iQ e).symm
 |_::_,[],_,_,_,_,e=>(iQ e).symm
 |a::l,b::l',vs,r,h1,h2,e=>by
  obtain⟨x,y,e1,e2,rfl⟩:=qR e;refine h1.rec λu us q a1 a2=>h2.rec λu' us' q' b1 b2=> ?_;cases q.symm.trans q';rw[hf a1 b1 e1,rM f hf a2 b2 e2];rfl
theorem JU(h:fO vs ep=fO vs' oG):vs=vs':=List.toArray_inj (Data.seq.inj (Obj.mk.inj h).2.2.1).1
theorem KP(h:dF vs ep=dF vs' oG):vs=vs':=List.toArray_inj (Data.seq.inj (Obj.mk.inj h).2.2.1).1
theorem gy.both{mk:List Value->Nat->Obj}(inj:∀{vs vs' ep oG},mk vs ep=mk vs' oG->vs=vs')(x:gy F mk R u)(y:gy F mk R' u):∃vs,R vs/\R' vs:=
 x.rec λa vs ep e h r=>y.rec λb ws oG e' h' r'=>by
  cases e.symm.trans e';cases inj (iQ (h.symm.trans h'));exact⟨vs,r,r'⟩
theorem tG:∀(k:Nat)(d d':D){u:Value}{r:Bool},VR G F d u->VR G F d' u->jM k d d'=some r->r=true
 | 0,_,_,_,_,h1,h2,e=>(xA h1 h2 e).2 rfl
 |k+1,d,d',u,r,h1,h2,e=>by
  cases d<;>first |exact(xA h1 h2 e).2 rfl |skip
  ·obtain⟨l',e1,e2⟩:=bS e;cases mQ e1;obtain⟨vs,r1,r2⟩:=gy.both JU h1 h2;clear e;obtain⟨x,e3,rfl⟩:=mS e2;rw[rM _ (tG k _ _) r1 r2 e3,jN (r1.length.symm.trans r2.length)];rfl
  ·obtain⟨l',e1,e2⟩:=bS e;cases rq e1;obtain⟨vs,r1,r2⟩:=gy.both KP h1 h2;rw[bw (r1.length.symm.trans r2.length)]at e2;exact rM _ (tG k _ _) r1 r2 e2
theorem I4.refs(same:a=b->r=true)(x:SeqAt.RcAt A s (.ref a) (.ref b) r)(y:SeqAt.RcNeAt A s (.ref a) (.ref b) (!r)):I4 A s (.ref a) (.ref b) r:=⟨x,y,by
 by_cases q:a=b
 ·rw[same q];subst q;exact SeqAt.EqAt.same _
 ·exact SeqAt.EqAt.of_refs q x⟩
theorem o9(hf:∀{x y u v r},VR G F x u->VR G F y v->f x y=some r->SeqAt.EqAt A s u v r)(r1:cG G F l vs)(r2:cG G F l' ws)
  (z2:∀(j:Nat)(x y:D),l[j]? =some x->l'[j]? =some y->f x y=some (Uy f l l' j))(j:Nat)(j1:j < (List.toArray vs).size)(j2:j < (List.toArray ws).size):SeqAt.EqAt A s (List.toArray vs)[j] (List.toArray ws)[j] (Uy f l l' j):=by
 have Zq:j < l.length:=r1.length▸j1;have Zp:j < l'.length:=r2.length▸j2;refine cps λPP kk=> ?_;obtain⟨v1,w1,w2⟩:=r1.get (je Zq);obtain⟨v2,w3,w4⟩:=r2.get (je Zp);obtain⟨_,rfl⟩:=nc.mp w1;obtain⟨_,rfl⟩:=nc.mp w3;refine kk ?_;clear kk;exact hf w2 w4 (z2 j _ _ (je Zq) (je Zp))
theorem xx(st:∀a o,F.1 a=some o->s.heap.get? a=some o):∀(k:Nat)(d d':D){u v:Value}{r:Bool}{A:Around},VR G F d u->VR G F d' v->jM k d d'=some r->A.units+k < cLine->I4 A s u v r
 | 0,_,_,_,_,_,_,h1,h2,e,_=>(xA h1 h2 e).1 _ _
 |k+1,d,d',u,v,r,A,h1,h2,e,hu=>by
  have hl:A.units < cLine:=eG (fN _ _) hu;have hf:∀{x y u v r},VR G F x u->VR G F y v->jM k x y=some r->SeqAt.EqAt A.in1 s u v r:=λa b c=>(xx st k _ _ a b c (by rw[Around.in1_units,oS,ng 1];exact hu)).eq;have same:u=v->r=true:=λq=>tG (k+1) d d' h1 (q▸h2) e;cases d<;>first |exact(xA h1 h2 e).1 _ _ |skip
  ·obtain⟨l',e1,e2⟩:=bS e;cases mQ e1;clear e;obtain⟨x,e3,rfl⟩:=mS e2;obtain⟨z1,z2⟩:=mH _ e3;refine h1.rec λa vs ep ea ha r1=>h2.rec λb ws oG eb hb r2=> ?_;clear h2 h1;subst ea;subst eb;have hl1:s.heap.IsTuple a vs.toArray:=⟨_,st _ _ ha,rfl,_,rfl⟩;have hr1:s.heap.IsTuple b ws.toArray:=⟨_,st _ _ hb,rfl,_,rfl⟩;rw[z1, <-r1.length, <-r2.length]at same⊢;exact I4.refs (λq=>same (congrArg _ q)) (SeqAt.RcAt.tuples hl1 hr1 hl (o9 hf r1 r2 z2)) (SeqAt.RcNeAt.tuples hl1 hr1 hl (o9 hf r1 r2 z2))
  ·obtain⟨l',e1,e2⟩:=bS e;cases rq e1;refine h1.rec λa vs ep ea ha r1=>h2.rec λb ws oG eb hb r2=> ?_;clear h2 h1;subst ea;subst eb;have hl1:s.heap.IsList a vs.toArray:=⟨_,st _ _ ha,rfl,_,rfl⟩;have hr1:s.heap.IsList b ws.toArray:=⟨_,st _ _ hb,rfl,_,rfl⟩;split at e2
   ·rename_i hlen;obtain⟨z1,z2⟩:=mH _ e2;have hs:(List.toArray vs).size=(List.toArray ws).size:=r1.length.trans (hlen.trans r2.length.symm);rw[hlen,Nat.min_self, <-r2.length]at z1;rw[<-(show vs.length=ws.length from hs)]at z1;rw[z1]at same⊢;exact I4.refs (λq=>same (congrArg _ q)) (SeqAt.RcAt.lists hl1 hr1 hs hl (o9 hf r1 r2 z2)) (SeqAt.RcNeAt.lists hl1 hr1 hs hl (o9 hf r1 r2 z2))
   ·rename_i hlen;clear e;cases e2;have hs:((List.toArray vs).size !=(List.toArray ws).size)=true:=bne_iff_ne.mpr λq=>hlen (r1.length.symm.trans (q.trans r2.length));exact I4.refs (λq=>same (congrArg _ q)) (SeqAt.RcAt.lists_lengths hl1 hr1 hs hl) (SeqAt.RcNeAt.lists_lengths hl1 hr1 hs hl)
noncomputable def l9(b:Bool)(o:az):aR V:= .ok (.d (.bool b)) o
noncomputable def Yg(a b:V)(o:az):Option Bool:=(cH o a).bind λx=>(cH o b).bind λy=>if y.2.isEmpty=true then some x.2.isEmpty else none
noncomputable def Ii(a b:V)(o:az):Option Bool:=match(kM a).bind λx=>(kM b).bind λy=>jM 30 x y with
 |some r=>some r
 |none=>Yg a b o
noncomputable def gi(a b:V)(o:az):aR V:=bx (Ii a b o) λr=>l9 r o
noncomputable def gA(a b:V)(o:az):aR V:=bx (Ii a b o) λr=>l9 (!r) o
theorem DictOf.MN{h:Heap}(x:h.DictOf (cJ w t) a []):h.DictOf (cJ w t') a []:=by
 refine cps λPP kk=> ?_;obtain⟨o,⟨es⟩,ep,h1,h2,h3,h4,h5,h6⟩:=x;refine kk ?_;clear kk;cases(show es=[]by cases h5;rfl);exact⟨o, #[],ep,h1,h2,h3,λe he=>(nomatch he), .nil,h6⟩
theorem KV.length(k:KV G F l kvs):kvs.length=l.length:=by
 have:=congrArg List.length k.1;rwa [cO,cO]at this
theorem KV.empty(k:KV G F l kvs):kvs.isEmpty=l.isEmpty:=by
 have:=k.1;clear k;cases kvs<;>cases l<;>first |rfl |cases this
theorem c8.units(h:c8 A N):A.units+40 < cLine:=eG (Nat.add_le_add (fN _ _) (by decide)) h.3
theorem C5(Fa:aP G ah)(R:c8 A N)(S:SR G ah F ρ objs X s.heap)(wa:WR G F ρ a u)(wb:WR G F ρ b v)(e:Ii a b objs=some r):
  (Q (.bool r) s->wpAny (model PR G.w) A (compareOp .Eq u v) Q E s)/\(Q (.bool (!r)) s->wpAny (model PR G.w) A (compareOp .NotEq u v) Q E s):=by
 have hu:A.units+30 < cLine:=eG (iR (by decide) _) R.units;unfold Ii at e;split at e
 ·rename_i hr;obtain⟨x,hx,hr⟩:=bS hr;obtain⟨y,hy,hr⟩:=bS hr;cases e;cases e_ hx;cases e_ hy;have z:=xx S.stays 30 x y wa wb hr hu;exact⟨z.rc _ _ _ _,z.ne _ _ _ _⟩
 ·refine cps λPP kk=> ?_;obtain⟨⟨t,l⟩,hl,e⟩:=bS e;obtain⟨⟨t',l'⟩,hl',e⟩:=bS e;refine kk ?_;clear kk;refine(S.cH Fa wa hl).rec λa kvs ea n1 d1 k1 Z=>(S.cH Fa wb hl').rec λb kvs' eb n2 d2 k2 Z=> ?_;clear wb wa;subst ea;subst eb;split at e
  ·rename_i hq;cases e;cases nZ.mp (k2.empty.trans hq);have hu:=eG (fN _ _) hu;have en:kvs.length=0->kvs=[]:=List.eq_nil_of_length_eq_zero;rw[<-k1.empty];exact⟨λh=>keq_eq (knd:=cJ G.w t) (r:=true) n1 n2 d1 (DictOf.MN d2) hu (λe=>by cases en e;exact .nil) (by cases kvs<;>exact h),
    λh=>keq_ne (knd:=cJ G.w t) (r:=true) n1 n2 d1 (DictOf.MN d2) hu (λe=>by cases en e;exact .nil) (by cases kvs<;>exact h)⟩
  ·exact aK e
theorem Sg:pT Fa N (compareOp .Eq) gi:=λZ Z Z Z Z Z Z Z Z Z Z Z R Z S wa wb P=>P.bx λZ hr P=>(C5 Fa R S wa wb hr).1 (P.done' S rfl)
theorem R9:pT Fa N (compareOp .NotEq) gA:=λZ Z Z Z Z Z Z Z Z Z Z Z R Z S wa wb P=>P.bx λZ hr P=>(C5 Fa R S wa wb hr).2 (P.done' S rfl)
noncomputable def blt(a b:List UInt8):Bool:=Builtin.Bytes.order a b== .lt
noncomputable def uJ(a b:V)(o:az):aR V:=alt (jC a) (λx=>bx (jC b) λy=>l9 (decide (x < y)) o)<|bx (q7 a) λx=>bx (q7 b) λy=>l9 (blt x y) o
noncomputable def C3(a b:V)(o:az):aR V:=q6 (λx y=>l9 (decide (y < x)) o) a b
noncomputable def V8(a b:V)(o:az):aR V:=q6 (λx y=>l9 (decide (y<=x)) o) a b
theorem jT:Slot "bytes" (cmpInfo .Lt).2.1 "bytes.__lt__":=
 .of (owner:="bytes") (n:="__lt__") (by rw[typeLookup_type,builtinLookup_eq_fast];kernel_rfl) (by decide+kernel) (by decide+kernel) (by decide+kernel)
  (by first |exact .inl (by decide+kernel) |exact .inr (by decide+kernel)) (by rw[isSubtype_type];kernel_rfl)
theorem mC:entryFor table "bytes.__lt__"=some Builtin.«bytes.__lt__»:=entryFor_of_tree (by kernel_rfl)
theorem lO(a b:Value):argsOk "bytes.__lt__" ⟨[a,b],[]⟩:=by
 unfold argsOk;rw[signature?_of (id:="bytes.__lt__") (n:=['_', '_', 't', 'l', '_', '_']) (o:=['s', 'e', 't', 'y', 'b']) (by kernel_rfl) FB.owner_bytes];kernel_rfl
theorem s9(b c:Array UInt8)(t u:Tok):Gives (Builtin.«bytes.__lt__» ⟨[.bytes b t, .bytes c u],[]⟩) (.val (.bool (blt b.toList c.toList))):=by
 refine .of_wp λM A E s Q hq=> ?_;show wpAny M A (isInstance (.bytes c u) (.type "bytes") >>= λr=>_) _ E s;refine bf (wpAny_isInstance (nV s c u) PySem.F.sub_bytes_bytes ?_);exact dz ⟨_,rfl,hq⟩
theorem GI(h:Q (.bool (blt b.toList c.toList)) s):wpAny (model PR G.w) A (compareOp .Lt (.bytes b t) (.bytes c u)) Q E s:=
 compareOp_gives (op:= .Lt) (nV s b t) (nV s c u) jT mC (lO _ _) (s9 b c t u) (λe=>nomatch e) h
theorem R_:pT Fa N (compareOp .Lt) uJ:=λZ Z Z Z Z Z Z Z Z Z Z Z Z Z S wa wb P=>P.alt (λZ hx P=>P.bx λZ hy P=>by
  obtain⟨t,rfl⟩:=wa.int hx;obtain⟨t',rfl⟩:=wb.int hy;exact PyProof.Rows.lt_int (P.done' S rfl)) λP=>P.bx λZ hx P=>P.bx λZ hy P=>by
  obtain⟨t,rfl⟩:=wa.EM hx;obtain⟨t',rfl⟩:=wb.EM hy;exact GI (P.done' S rfl)
theorem Se:pT Fa N (compareOp .Gt) C3:=gI λS P=>PyProof.Rows.gt_int (P.done' S rfl)
theorem Sf:pT Fa N (compareOp .GtE) V8:=gI λS P=>PyProof.Rows.ge_int (P.done' S rfl)
noncomputable def isNone:V->Bool
 | .d x=>x.isNone
 |_=>false
noncomputable def Lx(a b:V)(o:az):aR V:=bz (isNone b) (l9 (isNone a) o)
noncomputable def iZ(a b:V)(o:az):aR V:=bz (isNone b) (l9 (!isNone a) o)
theorem vE(h:isNone b=true):b= .d .none:=by cases b<;>first |exact Bool.noConfusion h |exact congrArg _ (yL h)
theorem pg(w:WR G F ρ a u):plainIs u .none=true/\(u== .none)=isNone a:=by
 have ref:∀{a:Addr}{b:Bool},u= .ref a->b=false->plainIs u .none=true/\(u== .none)=b:=λe q=>by subst e;subst q;exact⟨rfl,rfl⟩
 cases a with
 |d x=>cases x with
  |none |bool=>cases w;exact⟨rfl,rfl⟩
  |int |str |bytes=>obtain⟨_,rfl⟩:=w;exact⟨rfl,rfl⟩
  |fn=>exact ref w rfl
  |inst=>exact w.rec λZ Z Z Z e Z Z Z Z=>ref e rfl
  |dict=>exact w.rec λZ Z Z e Z Z Z Z=>ref e rfl
  |_=>exact w.rec λZ Z Z e Z Z=>ref e rfl
 |h n=>exact w.rec λZ Z e=>ref e rfl
 |bV t r=>exact w.rec λZ Z Z Z Z Z e Z Z Z Z Z Z=>ref e rfl
 |pair a b=>exact w.rec λZ Z Z Z e Z Z Z=>ref e rfl
 |lam a=>exact ref w rfl
theorem Sa:pT Fa N (compareOp .Is) Lx:=λZ Z Z Z Z Z Z Z Z b Z Z Z Z S wa wb P=>by
 obtain⟨hb,P⟩:=P.bz;cases vE hb;cases wb;exact wpAny_is_plain (pg wa).1 (by rw[(pg wa).2];exact P.done' S rfl)
theorem Gf:pT Fa N (compareOp .IsNot) iZ:=λZ Z Z Z Z Z Z Z Z b Z Z Z Z S wa wb P=>by
 obtain⟨hb,P⟩:=P.bz;cases vE hb;cases wb;exact wpAny_isNot_plain (pg wa).1 (by rw[(pg wa).2];exact P.done' S rfl)
end
inductive Fo |next (l:bL) |ret (v:V)
noncomputable abbrev DS:=bL->az->aR Fo
structure XS(W:List Addr)(X X':List (Addr×Obj)):Prop where
 addr:X'.map (λZ=>Z.1)=X.map (λZ=>Z.1)
 keep:∀p ∈ X,p.1 ∉ W->p ∈ X'
 V4:∀p ∈ X,nO p=true->∃o',(p.1,o') ∈ X'/\nO (p.1,o')=true
theorem XS.refl(W:List Addr)(X:List (Addr×Obj)):XS W X X:=⟨rfl,λZ h Z=>h,λp h m=>⟨p.2,h,m⟩⟩
theorem XS.trans(a:XS W X X')(b:XS W X' JD):XS W X JD:=
 ⟨b.addr.trans a.addr,λp h n=>b.keep p (a.keep p h n) n,λp h m=>let⟨o',h1,m1⟩:=a.V4 p h m;b.V4 (p.1,o') h1 m1⟩
theorem XS.Np(x:XS W X X')(A:Around)(h:iO A X):iO A X':=h.rec λl e r=>⟨l,e,λenv he=>(r env he).rec λk L Z f1 f2 f3=>let⟨o',g2,g3⟩:=x.V4 _ f2 f3;⟨k,L,o',f1,g2,g3⟩⟩
theorem jg{X:List (Addr×Obj)}(h:p ∈ X):p.1 ∈ X.map (λZ=>Z.1):=cX.mpr ⟨p,h,rfl⟩
theorem sO{p q:Addr×Obj}(h:q ∈ p::X)(n:q.1≠p.1):q ∈ X:=(cN.mp h).resolve_left λe=>n (congrArg _ e)
theorem XS.under{W:List Addr}(x:XS W (p::X) X')(hn:p.1 ∉ W)(nd:((p::X).map (λZ=>Z.1)).Nodup):∃JD,X'=p::JD/\XS W X JD:=by
 have nI:p.1 ∉ X.map (λZ=>Z.1):=(fU.mp nd).1;rcases X' with _ |⟨q,JD⟩
 ·cases x.addr
 obtain⟨h1,h2⟩:=nY x.addr;have h2:JD.map (λZ=>Z.1)=X.map (λZ=>Z.1):=h2;have e:p=q:=(cN.mp (x.keep p (.head _) hn)).resolve_right λh=>nI (h2▸jg h);clear h1;subst e;have ne:∀q ∈ X,q.1≠p.1:=λq hq e=>nI (e▸jg hq);exact⟨JD,rfl,h2,λq hq n=>sO (x.keep q (.tail _ hq) n) (ne q hq),λq hq m=>let⟨o',g,m'⟩:=x.V4 q (.tail _ hq) m;⟨o',sO g (ne q hq),m'⟩⟩
structure oQ(cx:Cx):Prop extends CxOk cx where
 inj:∀i j x,cx.vis i=some x->cx.vis j=some x->i=j
 Il:∀x y c,cx.en.cells.lookup x=some c->cx.en.cells.lookup y=some c->x=y
 Em:∀x c,cx.en.cells.lookup x=some c->c≠cx.en.locals
 sub:∀a ∈ cx.own,a ∈ nL cx.en
 KR:cx.en.locals ∈ cx.own
noncomputable def IM(cx:Cx)(x:Str):Prop:=cx.en.kindOf x=some .local\/(cx.en.kindOf x=some .cell/\∀c,cx.en.cells.lookup x=some c->c ∈ cx.own)
theorem Dq.cons(H:Dq cx X)(p:Addr×Obj):Dq cx (p::X):=
 ⟨H.loc.rec λo es ep a b c=>⟨o,es,ep, .tail _ a,b,c⟩,λx h=>(H.cell x h).rec λc o v a b d=>⟨c,o,v,a, .tail _ b,d⟩,λa h=> .tail _ (H.own a h)⟩
theorem bX{l:List (Str×β)}(h:l.lookup x=some c):(x,c) ∈ l:=by
 induction l with
 |nil=>cases h
 |cons p l ih=>
  obtain⟨y,d⟩:=p;rw[lV]at h;split at h
  ·rename_i q;cases h;rw[beq_iff_eq.mp q];exact .head _
  ·exact .tail _ (ih h)
theorem jr{en:Env}(h:en.cells.lookup x=some c):c ∈ nL en:=List.mem_cons_of_mem _ (cX.mpr ⟨_,bX h,rfl⟩)
theorem wF(hn:p.1 ∉ nL en){o:Obj}(h:(a,o) ∈ p::X)(ha:a ∈ nL en):(a,o) ∈ X:=sO h λe=>hn (by rw[<-e];exact ha)
theorem Dq.n7(H:Dq cx (p::X))(hn:p.1 ∉ nL cx.en):Dq cx X:=
 ⟨H.loc.rec λo es ep a b c=>⟨o,es,ep,wF hn a (.head _),b,c⟩,λx h=>(H.cell x h).rec λc o v a b d=>⟨c,o,v,a,wF hn b (jr a),d⟩,
  λa h=>(cN.mp (H.own a h)).resolve_left λq=>hn (by rw[show p.1=a from q.symm];exact h)⟩
theorem iO.cons(h:iO A X)(p:Addr×Obj):iO A (p::X):=h.rec λl e r=>⟨l,e,λenv he=>(r env he).rec λk L o f1 f2 f3=>⟨k,L,o,f1, .tail _ f2,f3⟩⟩
theorem uP.cons(h:uP X en x u)(p:Addr×Obj):uP (p::X) en x u:=
 h.rec (λk o es ep m d sk f=> .loc k o es ep (.tail _ m) d sk f) λc o k l m d=> .cell c o k l (.tail _ m) d
theorem uP.n7(h:uP (p::X) en x u)(hn:p.1 ∉ nL en):uP X en x u:=
 h.rec (λk o es ep m d sk f=> .loc k o es ep (wF hn m (.head _)) d sk f) λc o k l m d=> .cell c o k l (wF hn m (jr l)) d
theorem aW.n7(L:aW G F ρ cx (p::X) loc)(hn:p.1 ∉ nL cx.en):aW G F ρ cx X loc:=
 ⟨λi x v h e=>let⟨u,a,b⟩:=L.vars i x v h e;⟨u,a.n7 hn,b⟩,L.has.n7 hn⟩
theorem aW.cons(L:aW G F ρ cx X loc)(p:Addr×Obj):aW G F ρ cx (p::X) loc:=
 ⟨λi x v h e=>let⟨u,a,b⟩:=L.vars i x v h e;⟨u,a.cons p,b⟩,L.has.cons p⟩
section
variable{G:Gd}{ah:Heap}(Fa:aP G ah)
noncomputable def bY(cx:Cx)(A:Around)(F:FZ)(ρ:List Addr)(X:List (Addr×Obj))(s:Shared)(Q:Flow->Shared->Prop)(E:Value->Shared->Prop):aR Fo->Prop
 | .ok (.next loc) o=>∀F' ρ' X' h' tk,Sub F F'->ρ <+:ρ'->XS cx.own X X'->SR G ah F' ρ' o X' h'->aW G F' ρ' cx X' loc->Q .next {s with heap:=h',toks:=tk}
 | .ok (.ret v) o=>∀u F' ρ' X' h' tk,Sub F F'->ρ <+:ρ'->XS cx.own X X'->SR G ah F' ρ' o X' h'->WR G F' ρ' v u->Q (.ret u) {s with heap:=h',toks:=tk}
 | .exc x o=>∀e F' ρ' X' h' tk,Sub F F'->ρ <+:ρ'->XS cx.own X X'->Fl G ah Fa.j4 A F' ρ' o X' x e h'->E e {s with heap:=h',toks:=tk}
 | .stuck=>False
variable{Fa}
theorem bY.mono
  (P:bY Fa cx A F ρ X s Q E r)(f:Sub F F')(p:ρ <+:ρ')(x:XS cx.own X X'):bY Fa cx A F' ρ' X' {s with heap:=h,toks:=tk} Q E r:=by
 cases r with
 |ok v o=>
  cases v with
  |next l=>exact λcK bC c7 h₂ t₂ a b c=>P cK bC c7 h₂ t₂ (f.trans a) (p.trans b) (x.trans c)
  |ret v=>exact λu cK bC c7 h₂ t₂ a b c=>P u cK bC c7 h₂ t₂ (f.trans a) (p.trans b) (x.trans c)
 |exc y o=>exact λu cK bC c7 h₂ t₂ a b c=>P u cK bC c7 h₂ t₂ (f.trans a) (p.trans b) (x.trans c)
 |stuck=>exact P
theorem bY.next
  (P:bY Fa cx A F ρ X s Q E (r.bind f))
  (k:∀u a o F' ρ' h' tk,Sub F F'->ρ <+:ρ'->SR G ah F' ρ' o X h'->rel F' ρ' a u->bY Fa cx A F' ρ' X {s with heap:=h',toks:=tk} Q E (f a o)->Q₁ u {s with heap:=h',toks:=tk}):aS Fa rel A F ρ X s Q₁ E r:=by
 cases r with
 |ok v o=>exact λu F' ρ' h' tk a b c d=>k u v o F' ρ' h' tk a b c d (bY.mono P a b (XS.refl _ _))
 |exc x o=>exact λe F' ρ' h' tk a b c=>P e F' ρ' X h' tk a b (XS.refl _ _) c
 |stuck=>exact P
end
section
variable{G:Gd}{ah:Heap}(Fa:aP G ah)(N:Nat)(cx:Cx)
noncomputable def SS(ss:List Stmt)(f:DS):Prop:=∀(A:Around)(s:Shared)(loc:bL)(objs:az)(F:FZ)(ρ:List Addr)(X:List (Addr×Obj))(Q:Flow->Shared->Prop)(E:Value->Shared->Prop),
 c8 A N->iO A X->SR G ah F ρ objs X s.heap->aW G F ρ cx X loc->bY Fa cx A F ρ X s Q E (f loc objs)->wpAny (model PR G.w) A (execs ss cx.en) Q E s
noncomputable def S1(st:Stmt)(f:DS):Prop:=∀(A:Around)(s:Shared)(loc:bL)(objs:az)(F:FZ)(ρ:List Addr)(X:List (Addr×Obj))(Q:Flow->Shared->Prop)(E:Value->Shared->Prop),
 c8 A N->iO A X->SR G ah F ρ objs X s.heap->aW G F ρ cx X loc->bY Fa cx A F ρ X s Q E (f loc objs)->wpAny (model PR G.w) A (exec st cx.en) Q E s
end
section
variable{G:Gd}{ah:Heap}{Fa:aP G ah}{N:Nat}{cx:Cx}
noncomputable def av:DS:=λloc o=> .ok (.next loc) o
noncomputable def Gg(f:DS)(r:Fo)(o:az):aR Fo:=match r with | .next loc=>f loc o | .ret v=> .ok (.ret v) o
noncomputable def ao(f g:DS):DS:=λloc o=>(f loc o).bind (Gg g)
theorem QE:SS Fa N cx [] av:=λA s loc objs F ρ X Q E R X' S L P=>
 wpAny_execs_nil (P F ρ X s.heap s.toks (Sub.refl F) (fc ρ) (XS.refl _ _) S L)
theorem L_{st:Stmt}(hf:S1 Fa N cx st f)(hg:SS Fa N cx rest g):SS Fa N cx (st::rest) (ao f g):=by
 intro A s loc objs F ρ X Q E R X' S L P;refine uu (hf A s loc objs F ρ X _ E R X' S L ?_);unfold ao at P;cases hr:f loc objs with
 |ok v o=>
  rw[hr]at P;clear hr L S;cases v with
  |next l=>exact λF' ρ' c7 h' tk a b c e i=>hg A _ l o F' ρ' c7 Q E R (c.Np _ X') e i (bY.mono P a b c)
  |ret v=>exact P
 |exc x o=>rw[hr]at P;exact P
 |stuck=>rw[hr]at P;exact P
theorem XS.put(hm:(a,o) ∈ X)(ha:a ∈ W)(hd:nO (a,o')=true):XS W X (AV X a o'):=
 ⟨mV _ _ _,λp hp n=>fj hp λq=>n (q▸ha),λp hp m=>by
  by_cases q:p.1=a
  ·rw[q];exact⟨o',r8 hm,hd⟩
  ·exact⟨p.2,fj hp q,m⟩⟩
theorem aW.put(ok:oQ cx)(hx:cx.vis i=some x)(L:aW G F ρ cx X loc)(hH:Dq cx X')(h1:∃u,uP X' cx.en x u/\WR G F ρ v u)(h2:∀y u,y≠x->uP X cx.en y u->uP X' cx.en y u):
  aW G F ρ cx X' (loc.set i (some v)):=⟨λj y w hy hw=>by
 rcases jn hw with⟨q,q'⟩ |⟨q,hw⟩
 ·cases q';subst q;clear h2;cases hy.symm.trans hx;exact h1
 ·obtain⟨u,a,b⟩:=L.vars j y w hy hw;exact⟨u,h2 y u (λe=>q (ok.inj j i y hy (by rw[e];exact hx))) a,b⟩,hH⟩
theorem yq{A:Around}{s:Shared}{loc:bL}{objs:az}{F:FZ}{ρ:List Addr}{Q:Unit->Shared->Prop}{E:Value->Shared->Prop}{i:Nat}{x:Str}{v:V}
  (ok:oQ cx)(hx:cx.vis i=some x)(hk:IM cx x)(S:SR G ah F ρ objs X s.heap)(L:aW G F ρ cx X loc)(hw:WR G F ρ v u)
  (h:∀X' h' tk,XS cx.own X X'->SR G ah F ρ objs X' h'->aW G F ρ cx X' (loc.set i (some v))->Q () {s with heap:=h',toks:=tk}):wpAny (model PR G.w) A (storeName cx.en x u) Q E s:=by
 have H:=L.has;rcases hk with hk |⟨hk,hco⟩
 ·refine H.loc.rec λo es ep hm hd hs=> ?_;obtain⟨o₁,gg,gd⟩:=S.zB hm;refine wpAny_storeName_local (m:=λy=>nsFind es y) hk ⟨o₁,es,ep,gg,gd.trans hd,hs,λZ=>rfl⟩ (λh' hn EJ=> ?_) (by rw[ok.kind];rfl);refine cps λPP kk=> ?_;obtain⟨o',es',oG,g1,g2,g3,g4⟩:=hn;refine kk ?_;clear kk;have nf:∀vs,o'.data≠ .fields vs:=λvs e=>by rw[g2]at e;cases e
  have hm':=r8 (o:=pq o') hm;refine h _ h' _ (.put hm ok.KR (mZ nf)) (S.turnAt hm EJ (.mk g1 nf)) (L.put ok hx ⟨⟨pq o',es',oG,hm',g2,g3⟩,λy hy=> ?_,by rw[mV];exact H.own⟩ ⟨u, .loc hk (pq o') es' oG hm' g2 g3 ((g4 x).trans (bw rfl)),hw⟩ λy w hy hv=> ?_)
  ·exact(H.cell y hy).rec λc oc v c1 c2 c3=>⟨c,oc,v,c1,fj c2 (ok.Em _ _ c1),c3⟩
  ·refine hv.rec (λk o₂ es₂ Nx m₂ d₂ s₂ f₂=> ?_) λc oc k l m d=> .cell c oc k l (fj m (ok.Em _ _ l)) d;clear s₂ gd gg o₁;cases vm S.nodup m₂ hm rfl;cases hd.symm.trans d₂;exact .loc k (pq o') es' oG hm' g2 g3 ((g4 y).trans ((aZ hy).trans f₂))
 ·refine(H.cell x hk).rec λc o v₀ hl hm hd=> ?_;obtain⟨o₁,gg,gd⟩:=S.zB hm;refine wpAny_storeName_cell ok.kind hk hl ⟨o₁,gg,gd.trans hd⟩ λh' hc EJ=> ?_;obtain⟨o',g1,g2⟩:=hc;have nf:∀vs,o'.data≠ .fields vs:=λvs e=>by rw[g2]at e;cases e
  have hm':=r8 (o:=pq o') hm;have nl:=Ne.symm (ok.Em _ _ hl);refine h _ h' s.toks (.put hm (hco _ hl) (mZ nf)) (S.turnAt hm EJ (.mk g1 nf)) (L.put ok hx ⟨H.loc.rec λol es ep l1 l2 l3=>⟨ol,es,ep,fj l1 nl,l2,l3⟩,λy hy=> ?_,by rw[mV];exact H.own⟩ ⟨u, .cell c (pq o') (.inl hk) hl hm' g2,hw⟩ λy w hy hv=> ?_)
  ·refine(H.cell y hy).rec λc₂ oc v c1 c2 c3=> ?_
   by_cases q:c₂=c
   ·clear nl hl c3 c2 oc hy nf g1 EJ gd gg o₁ hd hm o hco H h' h hw L S hk hx ok v x i E Q ρ F objs loc s A v₀;subst q;exact⟨c₂,pq o',_,c1,hm',g2⟩
   ·exact⟨c₂,oc,v,c1,fj c2 q,c3⟩
  ·exact hv.rec (λk o₂ es₂ Nx m₂ d₂ s₂ f₂=> .loc k o₂ es₂ Nx (fj m₂ nl) d₂ s₂ f₂) λc₂ oc k l m d=> .cell c₂ oc k l (fj m λq=>hy (ok.Il _ _ _ (q▸l) hl)) d
noncomputable def ay(i:Nat)(f:DE):DS:=λloc o=>(f loc o).bind λv o=> .ok (.next (loc.set i (some v))) o
theorem qF(ok:oQ cx)(hx:cx.vis i=some x)(hk:IM cx x)
  (hf:SE Fa N cx e f)(hs:swapsWith e (some (.Name x xp)) pos.line cx.en=pure false):S1 Fa N cx (.Assign [.Name x xp] e pos) (ay i f):=
 λA s loc objs F ρ X Q E R X' S L P=>wpAny_Assign_Name (hf A s loc objs F ρ X _ E R X' S L (bY.next P λu a o F' ρ' h' tk f1 p1 S1 w1 P1=>
  yq ok hx hk S1 (L.mono f1 p1) w1 λc7 h₂ tk₂ x2 S2 L2=>P1 F' ρ' c7 h₂ tk₂ (Sub.refl _) (fc _) x2 S2 L2)) hs
noncomputable def dw(t:DT)(f g:DS):DS:=λloc o=>(t loc o).bind λb o=>if b=true then f loc o else g loc o
theorem Ve(ht:ST Fa N cx t k)(hf:SS Fa N cx b f)(hg:SS Fa N cx c g):S1 Fa N cx (.If t b c pos) (dw k f g):=
 λA s loc objs F ρ X Q E R X' S L P=>wpAny_If (ht A s loc objs F ρ X _ E R X' S L (bY.next P λu a o F' ρ' h' tk f1 p1 S1 w1 P1=>by
  cases Eq.symm w1;clear w1 P S ht;cases u with
  |true=>exact hf A _ loc o F' ρ' X Q E R X' S1 (L.mono f1 p1) P1
  |false=>exact hg A _ loc o F' ρ' X Q E R X' S1 (L.mono f1 p1) P1))
noncomputable def aX(f:DE):DS:=λloc o=>(f loc o).bind λv o=> .ok (.ret v) o
theorem IZ(hf:SE Fa N cx e f):S1 Fa N cx (.Return (some e) pos) (aX f):=
 λA s loc objs F ρ X Q E R X' S L P=>wpAny_Return_some (hf A s loc objs F ρ X _ E R X' S L (bY.next P λu a o F' ρ' h' tk f1 p1 S1 w1 P1=>P1 u F' ρ' X h' tk (Sub.refl _) (fc _) (XS.refl _ _) S1 w1))
noncomputable def cU(f:DE):DS:=λloc o=>(f loc o).bind λ_ o=> .ok (.next loc) o
theorem Mf(hf:SE Fa N cx e f)(hi:interactive cx.en=false)(hs:swapsWith e none pos.line cx.en=pure false):S1 Fa N cx (.Expr e pos) (cU f):=
 λA s loc objs F ρ X Q E R X' S L P=>wpAny_Expr_any (hf A s loc objs F ρ X _ E R X' S L (bY.next P λu a o F' ρ' h' tk f1 p1 S1 w1 P1=>P1 F' ρ' X h' tk (Sub.refl _) (fc _) (XS.refl _ _) S1 (L.mono f1 p1))) hi hs
noncomputable def quiet{α:Type}:aR α->aR α
 | .exc _ _=> .stuck
 |r=>r
theorem bY.quiet{G':Prop}(P:bY Fa cx A F ρ X s Q E ((quiet r).bind f))(k:∀a o,r= .ok a o->bY Fa cx A F ρ X s Q E (f a o)->G'):G':=by
 cases r with
 |ok a o=>exact k a o rfl P
 |exc=>exact P.elim
 |stuck=>exact P.elim
noncomputable def eB(t:DT)(f:DS):Nat->DS
 | 0=>λ_ _=> .stuck
 |n+1=>λloc o=>(quiet (t loc o)).bind λb o=>if b=true then(quiet (f loc o)).bind (Gg (eB t f n))else .ok (.next loc) o
inductive UY(Fa:aP G ah)(cx:Cx)(A:Around)(F:FZ)(ρ:List Addr)(s:Shared)(Q:Flow->Shared->Prop)(E:Value->Shared->Prop)(r:bL->az->aR Fo):Shared->Prop
 |mk (loc:bL) (objs:az) (F':FZ) (ρ':List Addr) (X:List (Addr×Obj)) (h:Heap) (tk:Nat) (f1:Sub F F') (p1:ρ <+:ρ') (x1:iO A X) (S:SR G ah F' ρ' objs X h) (L:aW G F' ρ' cx X loc) (P:bY Fa cx A F' ρ' X {s with heap:=h,toks:=tk} Q E (r loc objs)):
   UY Fa cx A F ρ s Q E r {s with heap:=h,toks:=tk}
theorem IY{f:DS}(n:Nat)(ht:ST Fa N cx t k)(hf:SS Fa N cx b f):S1 Fa N cx (.While t b [] pos) (eB k f n):=by
 intro A s loc objs F ρ X Q E R X' S L P;refine wpAny_While (codeAny_whileLoop (λn s'=>UY Fa cx A F ρ s Q E (eB k f n) s') ?_ n ⟨loc,objs,F,ρ,X,s.heap,s.toks,Sub.refl _,fc _,X',S,L,P⟩)
 rintro n s' ⟨loc',objs',F',ρ',cz,h',tk,f1,p1,x1,S1,L1,P1⟩
 cases n with
 |zero=>exact P1.elim
 |succ n=>exact bY.quiet P1 λb o hr P1=>ht A _ loc' objs' F' ρ' cz _ _ R x1 S1 L1 (by
   rw[hr];intro u cK bC h₂ t₂ f2 p2 S2 w2;cases w2;clear hr;cases b with
   |false=>exact wpAny_execs_nil (P1 cK bC cz h₂ t₂ f2 p2 (XS.refl _ _) S2 (L1.mono f2 p2))
   |true=>exact bY.quiet P1 λv o₂ hb P1=>hf A _ loc' o cK bC cz _ _ R x1 S2 (L1.mono f2 p2) (by
     rw[hb];clear hb;cases v with
     |next l=>exact λeY dS iA h₃ t₃ f3 p3 x3 S3 L3=>⟨n,Nat.lt_succ_self n,l,o₂,eY,dS,iA,h₃,t₃,f1.trans (f2.trans f3),p1.trans (p2.trans p3),x3.Np _ x1,S3,L3,bY.mono P1 (f2.trans f3) (p2.trans p3) x3⟩
     |ret v=>exact λu eY dS iA h₃ t₃ f3 p3 x3 S3 w3=>P1 u eY dS iA h₃ t₃ (f2.trans f3) (p2.trans p3) x3 S3 w3))
end
theorem aR.C7{r:aR α}(h:r.bind f= .ok b o):∃a o₁,r= .ok a o₁/\f a o₁= .ok b o:=by
 cases r with
 |ok a o₁=>exact⟨a,o₁,rfl,h⟩
 |exc=>cases h
 |stuck=>cases h
noncomputable def dY{α:Type}(r:aR α):Prop:=∀x o,r≠ .exc x o
theorem dY.bind(h:dY r)(k:∀a o,dY (f a o)):dY (r.bind f):=by
 cases r with
 |ok a o=>exact k a o
 |exc x o=>exact absurd rfl (h x o)
 |stuck=>exact λZ Z e=>by cases e
theorem dY.ok:dY (aR.ok a o):=λZ Z e=>by cases e
theorem dY.stuck:dY (aR.stuck:aR α):=λZ Z e=>by cases e
theorem dY.bx(k:∀a,dY (f a)):dY (bx x f):=by
 cases x with
 |some a=>exact k a
 |none=>exact .stuck
theorem dY.bz(k:dY r):dY (bz b r):=by
 cases b with
 |true=>exact k
 |false=>exact .stuck
noncomputable def JA:aH->Option D
 | .list l=>some (.list l)
 | .dict t l=>some (.dict t l)
 |_=>none
noncomputable def rC(v:V)(o:az):aR D:=match v with
 | .d x=> .ok x o
 | .h n=>bx (o[n]?.bind JA) λd=> .ok d (o.set n .dead)
 |_=> .stuck
noncomputable def jD:List V->az->aR (List D)
 | [],o=> .ok [] o
 |v::vs,o=>(rC v o).bind λd o=>(jD vs o).bind λds o=> .ok (d::ds) o
section
variable{G:Gd}{ah:Heap}{Fa:aP G ah}{N:Nat}{F:FZ}{ρ:List Addr}{objs:az}{X:List (Addr×Obj)}{h:Heap}
theorem pI:dY (rC v o):=by
 cases v with
 |d x=>exact .ok
 |h n=>exact .bx λZ=> .ok
 |_=>exact .stuck
theorem tH:∀{v:List V}{o:az},dY (jD v o)
 | [],_=> .ok
 |_::_,_=> .bind pI λZ Z=> .bind tH λZ Z=> .ok
inductive QY(G:Gd)(ah:Heap)(F:FZ)(ρ:List Addr)(X:List (Addr×Obj))(h:Heap)(o:az)(P:FZ->Prop):Prop
 |mk (F':FZ) (f:Sub F F') (S:SR G ah F' ρ o X h) (w:P F')
theorem OR.JA(e:JA x=some d)(ns:(a==sysModules)=false)(hF:F.1 a=some ob)(r:OR G F a x ob):VR G F d (.ref a):=by
 cases x<;>first |exact aK e |skip
 ·cases e;exact r.rec λvs ep e r=>⟨a,vs,ep,rfl,e▸hF,r⟩
 ·cases e;exact r.rec λes ep e r nd=>⟨a,es,ep,rfl,ns,nd,e▸hF,r⟩
theorem SR.rC(Fa:aP G ah)(S:SR G ah F ρ objs X h)(hw:WR G F ρ v u)(e:rC v objs= .ok d o):QY G ah F ρ X h o (λF'=>VR G F' d u):=by
 cases v with
 |d x=>cases e;exact⟨F,Sub.refl F,S,hw⟩
 |h n=>
  have e:bx (objs[n]?.bind JA) (λd=> .ok d (objs.set n .dead))=_:=e;cases hq:objs[n]?.bind JA with
  |none=>rw[hq]at e;cases e
  |some d'=>
   rw[hq]at e;cases e;obtain⟨x,hx,hd⟩:=bS hq;refine hw.rec λa ha eu=> ?_;clear hw;subst eu;have xd:x≠ .dead:=λq=>by rw[q]at hd;cases hd
   obtain⟨⟨ob,h2,r⟩,h3⟩:=S.addr hx xd ha;exact⟨_,bM ob h3,S.kill hx xd ha h2,OR.JA hd (S.sD Fa h3) (cj _ _ _) (r.mono (bM ob h3))⟩
 |_=>cases e
theorem SR.jD(Fa:aP G ah):∀{vs:List V}{us:List Value}{ds:List D}{objs o:az}{F:FZ},SR G ah F ρ objs X h->j_ G F ρ vs us->jD vs objs= .ok ds o->QY G ah F ρ X h o (λF'=>cG G F' ds us)
 | [],_,_,_,_,F,S,hw,e=>by cases e;cases hw;exact⟨F,Sub.refl F,S,rfl⟩
 |v::vs,_,ds,objs,o,F,S,hw,e=>hw.rec λu us e1 w1 w2=>by
  refine cps λPP kk=> ?_;obtain⟨d,o₁,h1,e⟩:=aR.C7 e;obtain⟨ds',o₂,h2,e⟩:=aR.C7 e;refine kk ?_;clear kk;cases e;exact(S.rC Fa w1 h1).rec λF' f1 S1 v1=>(SR.jD Fa S1 (w2.mono f1 (fc _)) h2).rec λrJ f2 S2 v2=>⟨rJ,f1.trans f2,S2,⟨u,us,e1,v1.mono f2,v2⟩⟩
section
variable{α β δ:Type}{A:Around}{s:Shared}{rel:FZ->List Addr->β->δ->Prop}{Q:δ->Shared->Prop}{E:Value->Shared->Prop}{G':Prop}
theorem aS.Uc{P:FZ->α->Prop}(ne:dY r)(hr:∀a o,r= .ok a o->QY G ah F ρ X s.heap o (λF'=>P F' a))(p:aS Fa rel A F ρ X s Q E (r.bind f))
  (k:∀a o F',Sub F F'->SR G ah F' ρ o X s.heap->P F' a->aS Fa rel A F' ρ X s Q E (f a o)->G'):G':=by
 cases r with
 |ok a o=>exact(hr a o rfl).rec λF' f S w=>k a o F' f S w (aS.mono p f (fc ρ))
 |exc x o=>exact absurd rfl (ne x o)
 |stuck=>exact p.elim
theorem aS.rC(S:SR G ah F ρ objs X s.heap)(hw:WR G F ρ v u)(p:aS Fa rel A F ρ X s Q E ((rC v objs).bind f))
  (k:∀d o F',Sub F F'->SR G ah F' ρ o X s.heap->VR G F' d u->aS Fa rel A F' ρ X s Q E (f d o)->G'):G':=aS.Uc pI (λZ Z e=>S.rC Fa hw e) p k
theorem aS.jD(S:SR G ah F ρ objs X s.heap)(hw:j_ G F ρ vs us)(p:aS Fa rel A F ρ X s Q E ((jD vs objs).bind f))
  (k:∀ds o F',Sub F F'->SR G ah F' ρ o X s.heap->cG G F' ds us->aS Fa rel A F' ρ X s Q E (f ds o)->G'):G':=aS.Uc tH (λZ Z e=>S.jD Fa hw e) p k
end
theorem cG.ws:∀{ds:List D}{us:List Value},cG G F ds us->j_ G F ρ (ds.map .d) us
 | [],_=>id
 |_::_,_=>mK.imp (λZ=>id) λZ=>cG.ws
noncomputable def Q7(F:FZ)(ρ:List Addr)(pn:Option Nat)(ax:Addr)(ob:Obj):Prop:=match pn with
 |none=>F.1 ax=some ob
 |some n=>ρ[n]? =some ax/\F.2 ax=some ob
noncomputable def Hg:aH->Bool
 | .pin x=>x.flat
 |_=>false
noncomputable def jI(pn:Option Nat)(o:az):Bool:=match pn with
 |none=>true
 |some n=>(o[n]?.map Hg).getD false
theorem Hf(h:Hg y=true):∃x,y= .pin x/\x.flat=true:=by cases y<;>first |exact Bool.noConfusion h |exact⟨_,rfl,h⟩
theorem Q7.get(x:Q7 F ρ pn ax ob)(S:SR G ah F ρ objs X h)(hp:jI pn objs=true):h.get? ax=some ob:=by
 cases pn with
 |none=>exact S.stays _ _ x
 |some n=>
  have hp:(objs[n]?.map Hg).getD false=true:=hp;cases hy:objs[n]? with
  |none=>rw[hy]at hp;cases hp
  |some y=>
   rw[hy]at hp;obtain⟨z,rfl,_⟩:=Hf hp;obtain⟨⟨o,g,r⟩,_⟩:=S.addr hy (λq=>aH.noConfusion q) x.1;cases r.1.symm.trans x.2;exact g
theorem Q7.mono(x:Q7 F ρ pn ax ob)(s:Sub F F')(p:ρ <+:ρ'):Q7 F' ρ' pn ax ob:=by
 cases pn with
 |none=>exact s.1 _ _ x
 |some n=>exact⟨jv p x.1,by rw[s.2];exact x.2⟩
noncomputable def cQ:aG->D
 | .int i=> .int i
 | .str s=> .str s
 | .bytes b=> .bytes b
theorem G5(h:(cJ G.w t).is k u=true):VR G F (cQ k) u:=by
 cases t<;>cases k
 all_goals first
  |exact(As h).elim
  |(cases u<;>first
    |exact(As h).elim
    |(cases eq_of_beq h;exact⟨_,rfl⟩))
theorem ig{s:Shared}(hg:s.heap.get? ax=some (dictOf es ep))(r:ue G F t l es)(nd:(l.map (λZ=>Z.1)).Nodup):
  ∃kvs,s.heap.DictAt (cJ G.w t) ax kvs ep/\KV G F l kvs:=
 r.pairs.rec λkvs p q z=>⟨kvs,⟨_,es.toArray,hg,⟨rfl,rfl,rfl⟩,rfl,λe he=>z e (Array.mem_def.mp he),p,q.1▸nd⟩,q⟩
theorem KV.key(q:KV G F l kvs){i:Nat}(hi:l[i]? =some p):∃v,kvs[i]? =some (p.1,v)/\VR G F p.2 v:=by
 refine cps λPP kk=> ?_;obtain⟨v,h2,h3⟩:=q.2.get (i:=i) (d:=p.2) (by rw[gB,hi];rfl);rw[gB]at h2;obtain⟨⟨k,v'⟩,h4,rfl⟩:=mS h2;refine kk ?_;clear kk;have h6:(kvs.map (λZ=>Z.1))[i]? =(l.map (λZ=>Z.1))[i]? :=by rw[q.1]
 rw[gB,gB,h4,hi]at h6;clear h2 hi q;cases iQ h6;exact⟨v',h4,h3⟩
structure Rw(G:Gd)(ah:Heap)(pn:Option Nat)(items:List V)(it:Value)(tg:PySem.Expr)(J:FZ->List Addr->Nat->List (Addr×Obj)->Prop):Prop where
 mono:∀{F F':FZ}{ρ ρ':List Addr}{k:Nat}{cz:List (Addr×Obj)},J F ρ k cz->Sub F F'->ρ <+:ρ'->J F' ρ' k cz
 next:∀{A:Around}{s:Shared}{objs:az}{F:FZ}{ρ:List Addr}{k:Nat}{cz X:List (Addr×Obj)}{v:V}{Q:Option Value->Shared->Prop}{E:Value->Shared->Prop},A.handled=none->SR G ah F ρ objs (cz++X) s.heap->J F ρ k cz->jI pn objs=true->items[k]? =some v->
  (∀u s₂,(∀(Q':Unit->Shared->Prop)(E':Value->Shared->Prop),(∀F' iA h tk,Sub F F'->iA.map (λZ=>Z.1)=cz.map (λZ=>Z.1)->J F' ρ (k+1) iA->SR G ah F' ρ objs (iA++X) h->WR G F' ρ v u->Q' () {s with heap:=h,toks:=tk})->wpAny (model PR G.w) A (letOwnedTupleGo tg it u) Q' E' s₂)->Q (some u) s₂)->
  wpAny (model PR G.w) A (pyNext it) Q E s
 done:∀{A:Around}{s:Shared}{objs:az}{F:FZ}{ρ:List Addr}{k:Nat}{cz X:List (Addr×Obj)}{Q:Option Value->Shared->Prop}{E:Value->Shared->Prop},A.handled=none->SR G ah F ρ objs (cz++X) s.heap->J F ρ k cz->jI pn objs=true->items[k]? =none->
  (∀h' tk,SR G ah F ρ objs X h'->Q none {s with heap:=h',toks:=tk})->wpAny (model PR G.w) A (pyNext it) Q E s
 self:∀{A:Around}{s:Shared}{objs:az}{F:FZ}{ρ:List Addr}{k:Nat}{cz X:List (Addr×Obj)}{Q:Value->Shared->Prop}{E:Value->Shared->Prop},SR G ah F ρ objs (cz++X) s.heap->J F ρ k cz->Q it s->wpAny (model PR G.w) A (pyIter it) Q E s
structure IQ(G:Gd)(ah:Heap)(pn:Option Nat)(items:List V)(I:Addr)(T:String)(ob:Nat->Obj->Prop)(st:FZ->List Addr->Prop):Prop where
 fld:∀{k o},ob k o->o.cls= .type T/\∃vs,o.data= .fields vs
 plain:(["enumerate","zip","dict_itemiterator","dict_reverseitemiterator","odict_iterator","itertools.zip_longest","itertools.pairwise"].contains T)=false
 mono:∀{F F':FZ}{ρ ρ':List Addr},st F ρ->Sub F F'->ρ <+:ρ'->st F' ρ'
 next:∀{A:Around}{s:Shared}{objs:az}{F:FZ}{ρ:List Addr}{X:List (Addr×Obj)}{k:Nat}{o:Obj}{v:V}{Q:Option Value->Shared->Prop}{E:Value->Shared->Prop},SR G ah F ρ objs X s.heap->st F ρ->jI pn objs=true->s.heap.get? I=some o->ob k o->items[k]? =some v->
  (∀u h' tk o',Heap.SameBut I s.heap h'->h'.get? I=some o'->ob (k+1) o'->WR G F ρ v u->Q (some u) {s with heap:=h',toks:=tk})->wpAny (model PR G.w) A (pyNext (.ref I)) Q E s
 done:∀{A:Around}{s:Shared}{objs:az}{F:FZ}{ρ:List Addr}{X:List (Addr×Obj)}{k:Nat}{o:Obj}{Q:Option Value->Shared->Prop}{E:Value->Shared->Prop},A.handled=none->SR G ah F ρ objs X s.heap->st F ρ->jI pn objs=true->s.heap.get? I=some o->ob k o->items[k]? =none->
  (∀h' tk,Heap.ExtBut I s.heap h'->Q none {s with heap:=h',toks:=tk})->wpAny (model PR G.w) A (pyNext (.ref I)) Q E s
 self:∀{A:Around}{s:Shared}{k:Nat}{o:Obj}{Q:Value->Shared->Prop}{E:Value->Shared->Prop},s.heap.get? I=some o->ob k o->Q (.ref I) s->wpAny (model PR G.w) A (pyIter (.ref I)) Q E s
inductive Yz(I:Addr)(ob:Nat->Obj->Prop)(st:FZ->List Addr->Prop)(F:FZ)(ρ:List Addr)(k:Nat)(cz:List (Addr×Obj)):Prop
 |mk (o:Obj) (e:cz=[(I,o)]) (b:ob k o) (s:st F ρ)
theorem DW(hI:s.heap.get? I=some o)(c1:o.cls= .type T)(c2:o.data= .fields fs)
  (hT:(["enumerate","zip","dict_itemiterator","dict_reverseitemiterator","odict_iterator","itertools.zip_longest","itertools.pairwise"].contains T)=false)(hQ:Q () s):wpAny (model PR G.w) A (letOwnedTupleGo tg (.ref I) u) Q E s:=by
 have go:∀a,wpAny (model PR G.w) A (do
   let o <-load I
   match o.cls,o.data with
   | .type n, .fields vs=>
    if["enumerate","zip","dict_itemiterator","dict_reverseitemiterator","odict_iterator","itertools.zip_longest","itertools.pairwise"].contains n&&vs[0]? ==some (rawInt a)then
     rule "for.unpacks-the-owned-tuple"
     updateField I 0 .none
   |_,_=>pure ()) Q E s:=λa=>by
  refine bf (wpAny_load hI ?_);rw[c1,c2];simp only[hT,Bool.false_and];exact dz hQ
 cases tg<;>first |exact dz hQ |(cases u<;>first |exact dz hQ |exact go _)
theorem IQ.VZ{st:FZ->List Addr->Prop}(x:IQ G ah pn items I T ob st)(tg:PySem.Expr):Rw G ah pn items (.ref I) tg (Yz I ob st)where
 mono j s p:=j.rec λo e b st=>⟨o,e,b,x.mono st s p⟩
 next hh S j hp hv hQ:=by
  obtain⟨o,rfl,b,st⟩:=j;obtain⟨c,vs,d⟩:=x.fld b;refine x.next S st hp (S.ext (I,o) (.head _) (cY d)).1 b hv λu h' tk o' sb g b' w=>hQ u _ λQ' E' hq=> ?_;obtain⟨c',vs',d'⟩:=x.fld b';exact DW g c' d' x.plain (hq _ [(I,o')] h' tk (Sub.refl _) rfl ⟨o',rfl,b',st⟩ (SR.lX S sb g) w)
 done hh S j hp hv hQ:=by
  obtain⟨o,rfl,b,st⟩:=j;obtain⟨c,vs,d⟩:=x.fld b;exact x.done hh S st hp (S.ext (I,o) (.head _) (cY d)).1 b hv λh' tk e=>hQ h' tk (SR.fall S e)
 self S j hQ:=by
  obtain⟨o,rfl,b,st⟩:=j;obtain⟨c,vs,d⟩:=x.fld b;exact x.self (S.ext (I,o) (.head _) (cY d)).1 b hQ
noncomputable def Dm(T:String)(d:Nat->Array Value)(k:Nat)(o:Obj):Prop:=o.cls= .type T/\o.data= .fields (d k)
theorem tu{ds:List D}{k:Nat}(h:(ds.map V.d)[k]? =some v):∃d,ds[k]? =some d/\v= .d d:=by
 rw[gB]at h;obtain⟨d,hd,rfl⟩:=mS h;exact⟨d,hd,rfl⟩
theorem mD{ds:List α}(h:(ds.map f)[k]? =none):ds.length<=k:=by
 have:=Dy.mp h
 rwa [cO]at this
theorem iH{vs:List Value}{k:Nat}(h:vs[k]? =some u):vs.toArray[k]? =some u:=by rw[Aw];exact h
variable(G ah)
theorem wm(pn:Option Nat)(ax:Addr)(ds:List D)(vs:List Value)(ep:Nat)(I:Addr):IQ G ah pn (ds.map .d) I "list_iterator" (Dm "list_iterator" λk=> #[.ref ax, .int k 0]) (λF ρ=>Q7 F ρ pn ax (dF vs ep)/\cG G F ds vs)where
 fld h:=⟨h.1,_,h.2⟩
 plain:=by decide
 mono h s p:=⟨h.1.mono s p,h.2.mono s⟩
 next S st hp g b hv hQ:=by
  obtain⟨d,hd,rfl⟩:=tu hv;obtain⟨u,hu,w⟩:=st.2.get hd;exact wpAny_pyNext_list_item (items:=vs.toArray) ⟨_,g,b.1,b.2⟩ ⟨_,st.1.get S hp,rfl,_,rfl⟩ (iH hu) λh' ⟨o',g1,g2,g3⟩ hs=>hQ u h' _ o' hs g1 ⟨g2,g3⟩ w
 done hh S st hp g b hv hQ:=wpAny_pyNext_list_end hh (items:=vs.toArray) ⟨_,g,b.1,b.2⟩ ⟨_,st.1.get S hp,rfl,_,rfl⟩ (Array.getElem?_eq_none (cS (jR st.2.length) (mD hv))) λh' he=>hQ h' _ he
 self g b hQ:=wpAny_pyIter_listiter ⟨_,g,b.1,b.2⟩ hQ
theorem OF(ax:Addr)(ds:List D)(vs:List Value)(ep:Nat)(I:Addr):IQ G ah none (ds.map .d) I "tuple_iterator" (Dm "tuple_iterator" λk=> #[.ref ax, .int k 0]) (λF Z=>F.1 ax=some (fO vs ep)/\cG G F ds vs)where
 fld h:=⟨h.1,_,h.2⟩
 plain:=by decide
 mono h s p:=⟨s.1 _ _ h.1,h.2.mono s⟩
 next S st hp g b hv hQ:=by
  obtain⟨d,hd,rfl⟩:=tu hv;obtain⟨u,hu,w⟩:=st.2.get hd;exact wpAny_pyNext_tuple_item (items:=vs.toArray) ⟨_,g,b.1,b.2⟩ ⟨_,S.stays _ _ st.1,rfl,_,rfl⟩ (iH hu) λh' ⟨o',g1,g2,g3⟩ hs=>hQ u h' _ o' hs g1 ⟨g2,g3⟩ w
 done hh S st hp g b hv hQ:=wpAny_pyNext_tuple_end hh (items:=vs.toArray) ⟨_,g,b.1,b.2⟩ ⟨_,S.stays _ _ st.1,rfl,_,rfl⟩ (Array.getElem?_eq_none (cS (jR st.2.length) (mD hv))) λh' he=>hQ h' _ he
 self g b hQ:=wpAny_pyIter_tupleiter ⟨_,g,b.1,b.2⟩ hQ
noncomputable def jV(a c:Int)(n:Nat):List V:=(List.range n).map λj:Nat=>V.d (.int (a+c * (j:Int)))
theorem Fx(a c:Int)(n:Nat)(I:Addr):IQ G ah none (jV a c n) I "range_iterator" (λk o=>k<=n/\o={cls:= .type "range_iterator",data:= .fields #[rawInt (a+c * k),rawInt (n - k),rawInt c]}) (λZ Z=>True)where
 fld h:=by rw[h.2];exact⟨rfl,_,rfl⟩
 plain:=by decide
 mono _ _ _:=trivial
 next {_ s _ _ _ _ k _ _ _ _} S st hp g b hv hQ:=by
  obtain⟨_,rfl⟩:=b;obtain⟨j,hj,rfl⟩:=mS ((gB ..).symm.trans hv);clear hv;obtain⟨hj1,rfl⟩:=nc.mp hj;rw[List.length_range]at hj1;refine wpAny_pyNext_range_item g (by exact Int.sub_pos_of_lt (qX.mpr hj1)) λh' hit hs=>hQ _ h' _ _ hs hit ⟨hj1, ?_⟩ ⟨s.toks,by rw[List.getElem_range]⟩;rw[show a+c * ↑k+c=a+c * ↑(k+1)by rw[Int.natCast_succ,Int.mul_add,Int.mul_one,Int.add_assoc],show(n:Int) - ↑k - 1= ↑n - ↑(k+1)by exact Int.sub_sub _ _ _]
 done hh S st hp g b hv hQ:=by
  obtain⟨_,rfl⟩:=b;have:=mD hv;rw[List.length_range]at this;exact wpAny_pyNext_range_end hh g (by exact Int.sub_nonpos_of_le (pZ.mpr this)) λh' he=>hQ h' _ he
 self g b hQ:=by obtain⟨_,rfl⟩:=b;exact wpAny_pyIter_rangeiter g hQ
theorem Cb(pn:Option Nat)(ax:Addr)(es:List DictEntry)(ep:Nat)(t:KT)(l:List (aG×D))(I:Addr):IQ G ah pn (l.map λp=>V.d (cQ p.1)) I "dict_keyiterator" (Dm "dict_keyiterator" λk=> #[.ref ax, .int k 0, .int l.length 0, .int ep 0]) (λF ρ=>Mq (Q7 F ρ pn ax (dictOf es ep)) (ue G F t l es) (l.map Prod.fst).Nodup)where
 fld h:=⟨h.1,_,h.2⟩
 plain:=by decide
 mono h s p:=⟨h.1.mono s p,h.2.mono s,h.3⟩
 next S st hp g b hv hQ:=by
  obtain⟨p,hd,rfl⟩:=mS ((gB ..).symm.trans hv);obtain⟨kvs,dA,q⟩:=ig (st.1.get S hp) st.2 st.3;obtain⟨u,hu,w⟩:=q.key hd;exact wpAny_pyNext_dict_item (knd:=cJ G.w t) (ep:=ep) ⟨_,g,b.1,by rw[b.2,q.length]⟩ dA hu λkey h' hk ⟨o',g1,g2,g3⟩ hs=>hQ key h' _ o' hs g1 ⟨g2,by rw[g3,q.length]⟩ (G5 hk)
 done hh S st hp g b hv hQ:=by
  obtain⟨kvs,dA,q⟩:=ig (st.1.get S hp) st.2 st.3;exact wpAny_pyNext_dict_end (knd:=cJ G.w t) (ep:=ep) hh ⟨_,g,b.1,by rw[b.2,q.length]⟩ dA (Ax (cS (jR q.length) (mD hv))) λh' he=>hQ h' _ he
 self g b hQ:=wpAny_pyIter_keyiter ⟨_,g,b.1,b.2⟩ hQ
theorem Fw(ax:Addr)(ds:List D)(vs:List Value)(ep:Nat)(I:Addr):IQ G ah none (ds.reverse.map .d) I "list_reverseiterator" (λk o=>k<=ds.length/\Dm "list_reverseiterator" (λk=> #[.ref ax,rawInt ((ds.length:Int) - 1 - (k:Int))]) k o) (λF Z=>F.1 ax=some (dF vs ep)/\cG G F ds vs)where
 fld h:=⟨h.2.1,_,h.2.2⟩
 plain:=by decide
 mono h s p:=⟨s.1 _ _ h.1,h.2.mono s⟩
 next {_ _ _ _ _ _ k _ _ _ _} S st hp g b hv hQ:=by
  obtain⟨d,hd,rfl⟩:=tu hv;obtain⟨_,b1,b2⟩:=b;have hk:k < ds.length:=by have:=(nc.mp hd).1;rwa [uz]at this
  have e1:(ds.length:Int) - 1 - (k:Int)=((ds.length - 1 - k:Nat):Int):=by rw[Nat.sub_sub];exact(Int.sub_sub _ _ _).trans (Int.ofNat_sub (ng 1 k▸hk)).symm
  have e2:((ds.length - 1 - k:Nat):Int) - 1=(ds.length:Int) - 1 - ((k+1:Nat):Int):=by rw[<-e1];exact Int.sub_sub _ _ _
  have b2:=b2.trans (congrArg (λx=>Data.fields #[.ref ax,rawInt x]) e1);rw[List.getElem?_reverse hk]at hd;obtain⟨u,hu,w⟩:=st.2.get hd;exact wpAny_pyNext_rev_item (items:=vs.toArray) (i:=ds.length - 1 - k) ⟨_,g,b1,b2⟩ ⟨_,S.stays _ _ st.1,rfl,_,rfl⟩ (iH hu) λh' ⟨o',g1,g2,g3⟩ hs=>hQ u h' _ o' hs g1 ⟨hk,g2,by rw[g3,e2]⟩ w
 done {_ _ _ _ _ _ k _ _ _} hh S st hp g b hv hQ:=by
  obtain⟨b0,b1,b2⟩:=b;have h2:=mD hv;rw[uz]at h2;have e1:(ds.length:Int) - 1 - (k:Int)= -1:=by rw[Nat.le_antisymm h2 b0,Int.sub_sub,Int.add_comm, <-Int.sub_sub,Int.sub_self];rfl
  have b2:=b2.trans (congrArg (λx=>Data.fields #[.ref ax,rawInt x]) e1);exact wpAny_pyNext_rev_end hh ⟨_,g,b1,b2⟩ λh' he=>hQ h' _ he
 self g b hQ:=wpAny_pyIter_revIter ⟨_,g,b.2.1,b.2.2⟩ hQ
end
inductive QM(F F':FZ)(ρ:List Addr)(n:Nat):Prop
 |mk (e:F'.1=F.1) (a:Addr) (o:Obj) (h:ρ[n]? =some a) (p:F'.2=λb=>if b=a then some o else F.2 b)
noncomputable def tZ(F F':FZ)(ρ:List Addr):Option Nat->Prop
 |none=>F'=F
 |some n=>QM F F' ρ n
theorem tZ.fst(r:tZ F F' ρ pn):F'.1=F.1:=by
 cases pn with
 |none=>exact congrArg Prod.fst r
 |some n=>exact r.1
noncomputable def D.sX:D->Option (List V)
 | .list l=>some (l.map .d)
 | .tup l=>some (l.map .d)
 | .dict _ l=>some (l.map λp=>V.d (cQ p.1))
 |_=>Option.none
noncomputable def aH.sX:aH->Option (List V×Bool×aH)
 | .list l=>some (l.map .d,true, .pin (.list l))
 | .dict t l=>some (l.map (λp=>V.d (cQ p.1)),true, .pin (.dict t l))
 | .rev l=>some (l.reverse.map .d,false, .dead)
 |_=>none
noncomputable def Bg(v:V)(o:az):aR (List V×Option Nat):=match v with
 | .d x=>bx x.sX λl=> .ok (l,none) o
 | .h n=>bx (o[n]?.bind aH.sX) λy=> .ok (y.1,if y.2.1=true then some n else none) (o.set n y.2.2)
 |_=> .stuck
noncomputable def Oe:aH->Option aH
 | .pin x=>if x.flat=true then some x else none
 |_=>none
noncomputable def qI(pn:Option Nat)(o:az):Option az:=match pn with
 |none=>some o
 |some n=>(o[n]?.bind Oe).map λx=>o.set n x
noncomputable abbrev DI:=bL->az->aR (List V×Option Nat)
noncomputable def bH(f:DE):DI:=λloc o=>(f loc o).bind Bg
section
variable{G:Gd}{ah:Heap}(Fa:aP G ah)
noncomputable def fB(tg:PySem.Expr)(A:Around)(F:FZ)(ρ:List Addr)(X:List (Addr×Obj))(s:Shared)(Q:Value->Shared->Prop)(E:Value->Shared->Prop):aR (List V×Option Nat)->Prop
 | .ok ip o=>∀it cz F' rJ ρ' h' tk J,Sub F F'->ρ <+:ρ'->tZ F' rJ ρ' ip.2->SR G ah rJ ρ' o (cz++X) h'->Rw G ah ip.2 ip.1 it tg J->J rJ ρ' 0 cz->Q it {s with heap:=h',toks:=tk}
 | .exc x o=>∀e F' ρ' h' tk,Sub F F'->ρ <+:ρ'->Fl G ah Fa.j4 A F' ρ' o X x e h'->E e {s with heap:=h',toks:=tk}
 | .stuck=>False
noncomputable def Ma(N:Nat)(cx:Cx)(iter tg:PySem.Expr)(g:DI):Prop:=∀(A:Around)(s:Shared)(loc:bL)(objs:az)(F:FZ)(ρ:List Addr)(X:List (Addr×Obj))(Q:Value->Shared->Prop)(E:Value->Shared->Prop),
 c8 A N->iO A X->SR G ah F ρ objs X s.heap->aW G F ρ cx X loc->fB Fa tg A F ρ X s Q E (g loc objs)->
  wpAny (model PR G.w) A (eval iter cx.en) (λx s₁=>wpAny (model PR G.w) A (pyIter x) Q E s₁) E s
noncomputable def I6(G:Gd)(ah:Heap)(cx:Cx)(F:FZ)(ρ:List Addr)(X:List (Addr×Obj))(s:Shared)(Q:Unit->Shared->Prop):aR bL->Prop
 | .ok loc o=>∀X' h' tk,XS cx.own X X'->SR G ah F ρ o X' h'->aW G F ρ cx X' loc->Q () {s with heap:=h',toks:=tk}
 |_=>False
noncomputable def NU(cx:Cx)(tg:PySem.Expr)(b:V->bL->az->aR bL):Prop:=∀(A:Around)(s:Shared)(loc:bL)(objs:az)(F:FZ)(ρ:List Addr)(X:List (Addr×Obj))(Q:Unit->Shared->Prop)(E:Value->Shared->Prop)(v:V)(u:Value),
 A.handled=none->SR G ah F ρ objs X s.heap->aW G F ρ cx X loc->WR G F ρ v u->I6 G ah cx F ρ X s Q (b v loc objs)->wpAny (model PR G.w) A (assign tg cx.en u) Q E s
end
theorem cA{C:aR β->Prop}{G':Prop}(h0:¬C .stuck)(P:C (bx x f))(k:∀a,x=some a->C (f a)->G'):G':=by
 cases x with
 |some a=>exact k a rfl P
 |none=>exact absurd P h0
section
variable{G:Gd}{ah:Heap}{Fa:aP G ah}{N:Nat}{cx:Cx}{F:FZ}{ρ:List Addr}{objs:az}{X:List (Addr×Obj)}{h:Heap}
theorem TL(S:SR G ah F ρ objs X s.heap)(w:VR G F x u)(e:x.sX=some l)(P:fB Fa tg A F ρ X s Q E (.ok (l,none) objs)):wpAny (model PR G.w) A (pyIter u) Q E s:=by
 have go:∀{o:Obj}{T ob st},o.isFreed=false->IQ G ah none l s.heap.objs.size T ob st->ob 0 o->st F ρ->Q (.ref s.heap.objs.size) {s with heap:=s.heap.push o}:=λhf x b st=>
  P _ [(s.heap.objs.size,_)] F F ρ _ s.toks _ (Sub.refl F) (fc ρ) rfl (S.cR hf) (x.VZ tg) ⟨_,rfl,b,st⟩
 cases x<;>first |exact aK e |skip
 ·cases e;exact w.rec λa vs ep eu ha r=>by subst eu;exact wpAny_pyIter_tuple (items:=vs.toArray) ⟨_,S.stays _ _ ha,rfl,_,rfl⟩ (go rfl (OF G ah a _ vs ep _) ⟨rfl,rfl⟩ ⟨ha,r⟩)
 ·cases e;exact w.rec λa vs ep eu ha r=>by subst eu;exact wpAny_pyIter_list (items:=vs.toArray) ⟨_,S.stays _ _ ha,rfl,_,rfl⟩ (go rfl (wm G ah none a _ vs ep _) ⟨rfl,rfl⟩ ⟨ha,r⟩)
 ·cases e;refine w.rec λa es ep eu na nd ha r=> ?_;clear P w;subst eu;obtain⟨kvs,dA,q⟩:=ig (S.stays _ _ ha) r nd;exact wpAny_pyIter_dict (knd:=cJ G.w _) na dA (go rfl (Cb G ah none a es ep _ _ _) ⟨rfl,by rw[q.length];rfl⟩ ⟨ha,r,nd⟩)
theorem TJ(S:SR G ah F ρ objs X s.heap)(w:Rb ρ n u)(hx:objs[n]? =some x)(e:x.sX=some y)
  (P:fB Fa tg A F ρ X s Q E (.ok (y.1,if y.2.1=true then some n else none) (objs.set n y.2.2))):wpAny (model PR G.w) A (pyIter u) Q E s:=by
 refine w.rec λa ha eu=> ?_;subst eu;have xd:x≠ .dead:=λq=>by rw[q]at e;cases e
 obtain⟨⟨o,h2,r⟩,h3⟩:=S.addr hx xd ha;have go:∀{o':Obj}{l T ob st},y=(l,true, .pin x)->x.flat=true->o'.isFreed=false->IQ G ah (some n) l s.heap.objs.size T ob st->ob 0 o'->st (Km F a o) ρ->Q (.ref s.heap.objs.size) {s with heap:=s.heap.push o'}:=λ{o' l _ _ _} ey xf hf z b st=>by
  clear e;subst ey;exact P _ [(s.heap.objs.size,o')] F (Km F a o) ρ _ s.toks _ (Sub.refl F) (fc ρ) ⟨rfl,a,o,ha,rfl⟩ ((S.pin hx xf ha h2).cR hf) (z.VZ tg) ⟨_,rfl,b,st⟩
 cases x<;>first |exact aK e |skip
 ·exact r.rec λvs ep eo r'=>by
   subst eo;exact wpAny_pyIter_list (items:=vs.toArray) ⟨_,h2,rfl,_,rfl⟩ (go (iQ e).symm rfl rfl (wm G ah (some n) a _ vs ep _) ⟨rfl,rfl⟩ ⟨⟨ha,bw rfl⟩,cG.bE wD _ r'⟩)
 ·refine r.rec λes ep eo r' nd=> ?_;clear r;subst eo;obtain⟨kvs,dA,q⟩:=ig h2 r' nd;exact wpAny_pyIter_dict (knd:=cJ G.w _) (S.sD Fa h3) dA (go (iQ e).symm rfl rfl (Cb G ah (some n) a es ep _ _ _) ⟨rfl,by rw[q.length];rfl⟩ ⟨⟨ha,bw rfl⟩,ue.bE wD _ r',nd⟩)
 ·clear go;cases e;exact r.rec λax vs ep g1 r c1 c2=>wpAny_pyIter_revIter ⟨o,h2,c1,c2⟩ (P _ [(a,o)] F F ρ _ s.toks _ (Sub.refl F) (fc ρ) rfl (S.Y3 hx xd ha h2) ((Fw G ah ax _ vs ep a).VZ tg) ⟨_,rfl,⟨pY _,c1,c2.trans (congrArg (λx=>Data.fields #[.ref ax,rawInt x]) (Int.sub_zero _).symm)⟩,g1,r⟩)
theorem PC(S:SR G ah F ρ objs X s.heap)(w:WR G F ρ v u)(P:fB Fa tg A F ρ X s Q E (Bg v objs)):wpAny (model PR G.w) A (pyIter u) Q E s:=by
 cases v with
 |d x=>exact cA (C:=fB Fa tg A F ρ X s Q E) id P λl e P=>TL S w e P
 |h n=>exact cA (C:=fB Fa tg A F ρ X s Q E) id P λy e P=>let⟨x,hx,e⟩:=bS e;TJ S w hx e P
 |_=>exact P.elim
theorem fB.next(P:fB Fa tg A F ρ X s Q E (r.bind f))
  (k:∀u a o F' ρ' h' tk,Sub F F'->ρ <+:ρ'->SR G ah F' ρ' o X h'->rel F' ρ' a u->fB Fa tg A F' ρ' X {s with heap:=h',toks:=tk} Q E (f a o)->Q₁ u {s with heap:=h',toks:=tk}):aS Fa rel A F ρ X s Q₁ E r:=by
 cases r with
 |ok v o=>
  refine λu F' ρ' h' tk a b c d=>k u v o F' ρ' h' tk a b c d ?_;have P:fB Fa tg A F ρ X s Q E (f v o):=P;cases hr:f v o with
  |ok v o=>rw[hr]at P;exact λit cz F₁ cK bC h₂ t₂ J e g=>P it cz F₁ cK bC h₂ t₂ J (a.trans e) (b.trans g)
  |exc x o=>rw[hr]at P;exact λu cK bC h₂ t₂ e g=>P u cK bC h₂ t₂ (a.trans e) (b.trans g)
  |stuck=>rw[hr]at P;exact P
 |exc x o=>exact P
 |stuck=>exact P
theorem QA(hf:SE Fa N cx e f):Ma Fa N cx e tg (bH f):=
 λA s loc objs F ρ X Q E R X' S L P=>hf A s loc objs F ρ X _ E R X' S L (fB.next P λu v o F' ρ' h' tk f1 p1 S1 w1 P1=>PC (Fa:=Fa) (s:={s with heap:=h',toks:=tk}) S1 w1 P1)
theorem rP(r:tZ F F' ρ' pn)(f:Sub F' eY)(p:ρ' <+:dS)(S:SR G ah eY dS o X h)(e:qI pn o=some o'):
  ∃eX,Sub F eX/\eX.1=eY.1/\SR G ah eX dS o' X h:=by
 cases pn with
 |none=>cases r;cases e;exact⟨eY,f,rfl,S⟩
 |some n=>
  obtain⟨y,hy,rfl⟩:=mS e;obtain⟨x,hx,hu⟩:=bS hy;cases x<;>first |exact aK hu |skip
  have hu:(if _=true then _ else none)=some y:=hu;split at hu
  ·rename_i hf;clear hy e;cases hu;exact r.rec λr1 a ob r2 r3=>⟨(eY.1,F.2),⟨λb y hb=>f.1 b y ((congrFun r1 b).trans hb),rfl⟩,rfl,(S.rO (P:=F.2) hx hf (jv p r2) (f.2.trans r3)).1⟩
  ·exact aK hu
noncomputable def aU(i:Nat)(v:V)(loc:bL)(o:az):aR bL:= .ok (loc.set i (some v)) o
theorem LS(ok:oQ cx)(hx:cx.vis i=some x)(hk:IM cx x):NU (G:=G) (ah:=ah) cx (.Name x xp) (aU i):=
 λZ Z Z Z Z Z Z Z Z Z Z Z S L w P=>wpAny_assign_Name (yq ok hx hk S L w P)
noncomputable def OH:V->Option (List V)
 | .d x=>x.AB.map λl=>l.map .d
 | .pair a b=>some [a,b]
 |_=>none
noncomputable def rY:List Nat->List V->bL->Option bL
 | [],[],loc=>some loc
 |i::is,v::vs,loc=>rY is vs (loc.set i (some v))
 |_,_,_=>none
noncomputable def jE(is:List Nat)(v:V)(loc:bL)(o:az):aR bL:=bx (OH v) λvs=>bx (rY is vs loc) λloc=> .ok loc o
inductive Vf(G:Gd)(F:FZ)(ρ:List Addr)(h:Heap)(vs:List V)(u:Value):Prop
 |mk (T:Addr) (us:List Value) (ep:Nat) (e:u= .ref T) (g:h.get? T=some (fO us ep)) (W:j_ G F ρ vs us)
theorem FO(S:SR G ah F ρ objs X h)(w:WR G F ρ v u)(e:OH v=some vs):Vf G F ρ h vs u:=by
 cases v<;>first |exact aK e |skip
 ·obtain⟨l,e1,rfl⟩:=mS e;clear e;cases mQ e1;exact gy.rec (λT us ep eu hT r=>⟨T,us,ep,eu,S.stays _ _ hT,r.ws⟩) w
 ·cases e;exact Jh.rec (λT x y ep eu hT wa wb=>⟨T,[x,y],ep,eu,S.stays _ _ hT,x,_,rfl,wa,y,_,rfl,wb,rfl⟩) w
inductive LU(cx:Cx)(t:Value->Sem Unit)(i:Nat):Prop
 |mk (x:Str) (hx:cx.vis i=some x) (hk:IM cx x) (st:∀{A:Around}{s:Shared}{Q:Unit->Shared->Prop}{E:Value->Shared->Prop}{u:Value},wpAny (model PR G.w) A (storeName cx.en x u) Q E s->wpAny (model PR G.w) A (t u) Q E s)
theorem uZ(ok:oQ cx)(al:Al (LU (G:=G) cx) ts is):∀{A:Around}{s:Shared}{objs:az}{F:FZ}{ρ:List Addr}{X:List (Addr×Obj)}{loc loc':bL}{vs:List V}{us:List Value}{Q:Unit->Shared->Prop}{E:Value->Shared->Prop},SR G ah F ρ objs X s.heap->aW G F ρ cx X loc->j_ G F ρ vs us->rY is vs loc=some loc'->
  (∀X' h' tk,XS cx.own X X'->SR G ah F ρ objs X' h'->aW G F ρ cx X' loc'->Q () {s with heap:=h',toks:=tk})->wpAny (model PR G.w) A (assignInOrder ts us) Q E s:=by
 induction al with
 |nil=>
  intro A s objs F ρ X loc loc' vs us Q E S L W e hQ;cases vs<;>first |cases e |exact aK e
  cases W;exact wpAny_assignInOrder_none (hQ X s.heap s.toks (XS.refl _ _) S L)
 |cons z _ ih=>
  intro A s objs F ρ X loc loc' vs us Q E S L W e hQ;cases vs<;>first |exact aK e |skip
  exact W.rec λu us e' w W0=>z.rec λx hx hk st=>by
   clear W;subst e';exact wpAny_assignInOrder_more (st (yq ok hx hk S L w λcz h₁ tk₁ x1 S2 L1=>ih (s:={s with heap:=h₁,toks:=tk₁}) S2 L1 W0 e λc7 h₂ tk₂ x2 S3 L2=>hQ c7 h₂ tk₂ (x1.trans x2) S3 L2))
structure Jt(G:Gd)(cx:Cx)(elts:List PySem.Expr)(is:List Nat):Prop where
 al:Al (LU (G:=G) cx) ((assignEach elts cx.en).map (λZ=>Z.2)) is
 ns:(assignEach elts cx.en).findIdx? (λZ=>Z.1)=none
theorem n_:∀{is:List Nat}{vs:List V}{loc:bL},rY is vs loc=some loc'->is.length=vs.length
 | [],vs,loc,e=>by cases vs<;>first |rfl |exact aK e
 |i::is,vs,loc,e=>by cases vs<;>first |exact aK e |exact congrArg (λZ=>Z+1) (n_ (is:=is) e)
theorem Qw{is:List Nat}{tp:Pos}(ok:oQ cx)(z:Jt G cx elts is):NU (G:=G) (ah:=ah) cx (.Tuple elts c1 tp) (jE is):=
 λA s loc objs F ρ X Q E v u hh S L w P=>cA (C:=I6 G ah cx F ρ X s Q) id P λvs e P=>cA (C:=I6 G ah cx F ρ X s Q) id P λloc' e' P=>(FO S w e).rec λT us ep eu hT W=>by
  clear w;subst eu;refine wpAny_assign_Tuple hh (items:=us.toArray) ⟨_,hT,rfl,_,rfl⟩ ?_ z.ns λh' he=> ?_
  ·rw[kj,W.length, <-n_ e',z.al.length,cO]
  ·exact uZ ok z.al (s:={s with heap:=h'}) (S.turn λb o e=>he b o (jc (fL e)) e) L W e' P
theorem XS.qb:∀{P X':List (Addr×Obj)},XS W (P++X) X'->(∀p ∈ P,p.1 ∉ W)->((P++X).map (λZ=>Z.1)).Nodup->∃JD,X'=P++JD/\XS W X JD
 | [],X',x,_,_=>⟨X',rfl,x⟩
 |p::P,X',x,hn,nd=>by
  obtain⟨cz,rfl,x1⟩:=XS.under x (hn p (.head _)) nd;clear x;obtain⟨c7,rfl,x2⟩:=XS.qb x1 (λq hq=>hn q (.tail _ hq)) (fU.mp nd).2;exact⟨c7,rfl,x2⟩
theorem aW.app(L:aW G F ρ cx X loc):∀P:List (Addr×Obj),aW G F ρ cx (P++X) loc
 | []=>L
 |p::P=>(L.app P).cons p
theorem iO.app(H:iO A X):∀P:List (Addr×Obj),iO A (P++X)
 | []=>H
 |p::P=>(H.app P).cons p
theorem aW.B5:∀{P:List (Addr×Obj)},aW G F ρ cx (P++X) loc->(∀p ∈ P,p.1 ∉ nL cx.en)->aW G F ρ cx X loc
 | [],H,_=>H
 |p::P,H,hn=>aW.B5 (H.n7 (hn p (.head _))) λq hq=>hn q (.tail _ hq)
theorem vP(nd:((P++X).map (λZ=>Z.1)).Nodup)(H:Dq cx X):∀p ∈ P,p.1 ∉ nL cx.en:=λp hp hm=>by
 rw[fZ]at nd;exact(nk.mp nd).2.2 p.1 (jg hp) p.1 (H.own _ hm) rfl
noncomputable def leave(pn:Option Nat)(r:Fo)(o:az):aR Fo:=bx (qI pn o) λo=> .ok r o
noncomputable def Pf(pn:Option Nat)(f:DS)(r:Fo)(o:az):aR Fo:=match r with | .next loc=>f loc o | .ret v=>leave pn (.ret v) o
noncomputable def jb(pn:Option Nat)(bd:V->bL->az->aR bL)(f:DS):List V->DS
 | []=>λloc o=>bz (jI pn o) (leave pn (.next loc) o)
 |v::vs=>λloc o=>bz (jI pn o) ((quiet (bd v loc o)).bind λloc o=>(quiet (f loc o)).bind (Pf pn (jb pn bd f vs)))
noncomputable def kN(g:DI)(bd:V->bL->az->aR bL)(f:DS):DS:=λloc o=>(g loc o).bind λip o=>jb ip.2 bd f ip.1 loc o
theorem bY.bz(P:bY Fa cx A F ρ X s Q E (bz b r)):b=true/\bY Fa cx A F ρ X s Q E r:=by
 cases b with
 |true=>exact⟨rfl,P⟩
 |false=>exact P.elim
inductive VA(Fa:aP G ah)(cx:Cx)(A:Around)(F:FZ)(ρ:List Addr)(X:List (Addr×Obj))(s:Shared)(Q:Flow->Shared->Prop)(E:Value->Shared->Prop)(F₁:FZ)(Mr:List Addr)(items:List V)(J:FZ->List Addr->Nat->List (Addr×Obj)->Prop)(r:Nat->DS)(n:Nat):Shared->Prop
 |mk (k:Nat) (loc:bL) (objs:az) (cK:FZ) (bC:List Addr) (cz c7:List (Addr×Obj)) (h:Heap) (tk:Nat) (e:n=items.length - k) (f:Sub F₁ cK) (p:Mr <+:bC) (x:XS cx.own X c7) (S:SR G ah cK bC objs (cz++c7) h) (L:aW G cK bC cx c7 loc)
   (j:J cK bC k cz) (P:bY Fa cx A F ρ X s Q E (r k loc objs)):VA Fa cx A F ρ X s Q E F₁ Mr items J r n {s with heap:=h,toks:=tk}
theorem QH(ok:oQ cx){tg it:PySem.Expr}{b:List Stmt}{pos:Pos}{g:DI}{bd:V->bL->az->aR bL}{f:DS}(hg:Ma Fa N cx it tg g)(ht:NU (G:=G) (ah:=ah) cx tg bd)(hf:SS Fa N cx b f)
  (hs:∀x,foldedSetIterable it cx.en x=pure x):S1 Fa N cx (.For tg it b [] pos) (kN g bd f):=by
 intro A s loc objs F ρ X Q E R X' S L P;refine wpAny_For (hg A s loc objs F ρ X _ E R X' S L ?_) hs;unfold kN at P;cases hr:g loc objs with
 |stuck=>rw[hr]at P;exact P
 |exc x o=>rw[hr]at P;exact λe F' ρ' h' tk a b c=>P e F' ρ' X h' tk a b (XS.refl _ _) c
 |ok ip o=>
  obtain⟨items,pn⟩:=ip;rw[hr]at P;intro itv cz F' rJ ρ' h' tk J f1 p1 pr S1 I j;have iP:∀{cK bC o r},Sub rJ cK->ρ' <+:bC->bY Fa cx A F ρ X s Q E (leave pn r o)->∀{c7 h₂},SR G ah cK bC o c7 h₂->∃o' eX,Sub F eX/\eX.1=cK.1/\SR G ah eX bC o' c7 h₂/\bY Fa cx A F ρ X s Q E (.ok r o'):=λf2 p2 P Z Z S2=>
   cA (C:=bY Fa cx A F ρ X s Q E) id P λo' hu P=>let⟨eX,f4,e4,S4⟩:=rP pr f2 p2 S2 hu;⟨o',eX,f1.trans f4,e4,S4,P⟩
  refine codeAny_forLoop_any (λn s'=>VA Fa cx A F ρ X s Q E rJ ρ' items J (λk=>jb pn bd f (items.drop k)) n s') ?_ items.length
   ⟨0,loc,o,rJ,ρ',cz,X,h',tk,rfl,Sub.refl _,fc _,XS.refl _ _,S1,L.bE (λa ob q=>(congrFun pr.fst a).trans (f1.1 a ob q)) p1,j,P⟩
  rintro n s' ⟨k,loc',objs',cK,bC,cz,c7,h₂,t₂,rfl,f2,p2,x2,S2,L2,J2,P2⟩
  cases hv:items[k]? with
  |none=>
   rw[List.drop_eq_nil_of_le (Dy.mp hv)]at P2;obtain⟨hp,P2⟩:=bY.bz P2;refine I.done R.1 S2 J2 hp hv λh₃ t₃ S3=> ?_;refine cps λPP kk=> ?_;obtain⟨o',eX,f4,e4,S4,P4⟩:=iP f2 p2 P2 S3;refine kk ?_;clear kk;exact wpAny_execs_nil (P4 eX bC c7 h₃ t₃ f4 (p1.trans p2) x2 S4 (L2.bE (λa ob q=>(congrFun e4 a).trans q) (fc _)))
  |some v=>
   have hk:k < items.length:=(nc.mp hv).1;rw[List.drop_eq_getElem_cons hk,(nc.mp hv).2]at P2;obtain⟨hp,P2⟩:=bY.bz P2;refine I.next R.1 S2 J2 hp hv λu s₂ hown=>hown _ _ λeY iA h₃ t₃ f3 ea J3 S3 w3=> ?_;have nX:=vP S3.nodup L2.has;have nW:∀p ∈ iA,p.1 ∉ cx.own:=λp hp hm=>nX p hp (ok.sub _ hm);have L3:aW G eY bC cx c7 loc':=L2.mono f3 (fc _);exact bY.quiet P2 λl₁ o₁ hb P2=>ht A _ loc' objs' eY bC (iA++c7) _ _ v u R.1 S3 (L3.app _) w3 (by
    rw[hb];intro Yv h₄ t₄ x4 S4 L4;refine cps λPP kk=> ?_;obtain⟨UX,rfl,x5⟩:=XS.qb x4 nW S3.nodup;refine kk ?_;clear kk;exact bY.quiet P2 λr o₂ hc P2=>hf A _ l₁ o₁ eY bC (iA++UX) _ _ R ((x5.Np _ (x2.Np _ X')).app _) S4 L4 (by
     rw[hc];cases r with
     |next l₂=>
      intro Jl uS Yu h₆ E6 f6 p6 x6 S6 L6;refine cps λPP kk=> ?_;obtain⟨BJ,rfl,x7⟩:=XS.qb x6 nW S4.nodup;refine kk ?_;clear kk;exact⟨items.length - (k+1),by exact Nat.sub_succ_lt_self _ _ hk,k+1,l₂,o₂,Jl,uS,iA,BJ,h₆,E6,rfl,f2.trans (f3.trans f6),p2.trans p6,x2.trans (x5.trans x7),S6,L6.B5 nX,I.mono J3 f6 p6,P2⟩
     |ret w=>
      intro u₂ Jl uS Yu h₆ E6 f6 p6 x6 S6 w6;refine cps λPP kk=> ?_;obtain⟨BJ,rfl,x7⟩:=XS.qb x6 nW S4.nodup;obtain⟨o',eX,f4,e4,S9,P4⟩:=iP (f2.trans (f3.trans f6)) (p2.trans p6) P2 (S6.less (List.sublist_append_right _ _));refine kk ?_;clear kk;exact P4 u₂ eX uS BJ h₆ E6 f4 (p1.trans (p2.trans p6)) (x2.trans (x5.trans x7)) S9 (w6.bE (λa ob q=>(congrFun e4 a).trans q) (fc _))))
end
structure YR(env:Env)(names:List (Str×NameKind))(acc cl:List (Str×Addr)):Prop where
 run:(forIn names acc λ(x:Str×NameKind) r=>(if x.2== .free then(cellOf env x.1 >>= λc=>pure (ForInStep.yield ((x.1,c)::r)))else pure (ForInStep.yield r):Sem (ForInStep (List (Str×Addr)))))=pure cl
 from_:∀p ∈ cl,p ∈ acc\/env.cells.lookup p.1=some p.2
 kept:∀p ∈ acc,p ∈ cl
 has:∀y ∈ names,y.2= .free->∃c,(y.1,c) ∈ cl
theorem oK(env:Env):∀(names:List (Str×NameKind))(acc:List (Str×Addr)),(∀y ∈ names,y.2= .free->∃c,env.cells.lookup y.1=some c)->∃cl,YR env names acc cl
 | [],acc,_=>⟨acc,rfl,λp h=> .inl h,λp h=>h,λy h=>nomatch h⟩
 |(x,k)::names,acc,h=>by
  have h':=λy hy=>h y (.tail _ hy)
  by_cases hk:k= .free
  ·subst hk;obtain⟨c,hc⟩:=h (x, .free) (.head _) rfl;obtain⟨cl,z⟩:=oK env names ((x,c)::acc) h';refine⟨cl, ?_,λp hp=> ?_,λp hp=>z.kept p (.tail _ hp),λy hy hf=> ?_⟩
   ·rw[List.forIn_cons,show cellOf env x=pure c by simp only[cellOf,hc]];exact z.run
   ·rcases z.from_ p hp with h1 |h1
    ·rcases cN.mp h1 with h2 |h2
     ·clear h1 hp z;subst h2;exact .inr hc
     ·exact .inl h2
    ·exact .inr h1
   ·rcases cN.mp hy with h1 |h1
    ·clear hf hy;subst h1;exact⟨c,z.kept _ (.head _)⟩
    ·exact z.has y h1 hf
  ·obtain⟨cl,z⟩:=oK env names acc h';refine⟨cl, ?_,z.from_,z.kept,λy hy hf=> ?_⟩
   ·rw[List.forIn_cons,aZ (λq=>hk (eq_of_beq q))];exact z.run
   ·rcases cN.mp hy with h1 |h1
    ·subst h1;exact absurd hf hk
    ·exact z.has y h1 hf
theorem Jx{l:List (Str×Addr)}{f:Str->Option Addr}(h:∀p ∈ l,f p.1=some p.2)(e:l.lookup x=some c):f x=some c:=h _ (bX e)
theorem uD{l:List (Str×Addr)}{f:Str->Option Addr}(h:∀p ∈ l,f p.1=some p.2)(e:(x,c) ∈ l):l.lookup x=f x:=by
 cases q:l.lookup x with
 |some c'=>exact(h _ (bX q)).symm
 |none=>exact absurd (List.lookup_eq_none_iff.mp q _ e) (by simp)
structure Du(scope:Scope)(env:Env)(cl:List (Str×Addr)):Prop where
 run:closureFor scope env=pure cl
 all:∀p ∈ cl,env.cells.lookup p.1=some p.2
 has:∀y ∈ scope.names,y.2= .free->cl.lookup y.1=env.cells.lookup y.1
theorem Du.sub(z:Du scope env cl)(h:cl.lookup x=some c):env.cells.lookup x=some c:=z.all _ (bX h)
theorem tS{scope:Scope}{env:Env}(h:∀y ∈ scope.names,y.2= .free->∃c,env.cells.lookup y.1=some c):∃cl,Du scope env cl:=by
 obtain⟨cl,z⟩:=oK env scope.names [] h;have a:∀p ∈ cl,env.cells.lookup p.1=some p.2:=λp hp=>(z.from_ p hp).resolve_left λq=>nomatch q;exact⟨cl,(congrArg (λZ=>Z >>= λcs=>pure cs) z.run).trans rfl,a,λy hy hf=>let⟨_,hc⟩:=z.has y hy hf;uD (f:=λy=>env.cells.lookup y) a hc⟩
structure mO(cx:Cx)(scope:Scope)(dD:Nat->Option Str):Prop where
 kind:scope.kind= .function
 qo:∀y ∈ scope.names,y.2≠ .cell
 Sx:∀y ∈ scope.names,y.2= .local->scope.names.lookup y.1=some .local
 free:∀y ∈ scope.names,y.2= .free->cx.en.kindOf y.1=some .cell
 vis:∀i x,dD i=some x->scope.names.lookup x=some .local\/(scope.names.lookup x=some .free/\cx.vis i=some x)
 inj:∀i j x,dD i=some x->dD j=some x->i=j
 names:∀i x,dD i=some x->(x==("__debug__":Str))=false/\(x==("__classdict__":Str))=false
noncomputable abbrev An(cx:Cx)(scope:Scope)(cl:List (Str×Addr))(C:Addr)(dD:Nat->Option Str):Cx:=⟨compEnvC scope cl C cx.en,dD,[C]⟩
theorem ou(g:Str->β->γ):∀(l:List (Str×β))(x:Str),(l.map λp=>(p.1,g p.1 p.2)).lookup x=(l.lookup x).map (g x)
 | [],_=>rfl
 |(n,k)::r,x=>by
  rw[qY,lV,lV,ou g r x];dsimp only;cases h:x==n with
  |true=>rw[beq_iff_eq.mp h];rfl
  |false=>rfl
noncomputable def OQ(env:Env)(n:Str)(k:NameKind):NameKind:=if(k==NameKind.free&&env.scope.kind== .function&&env.kindOf n==some .cell)=true then .cell else k
theorem gO(env:Env)(names:List (Str×NameKind))(x:Str):
  (names.map λ(n,k)=>if(k==NameKind.free&&env.scope.kind== .function&&env.kindOf n==some .cell)then(n,NameKind.cell)else(n,k)).lookup x=(names.lookup x).map (OQ env x):=by
 rw[<-ou]
 congr 2
 funext p
 unfold OQ;dsimp only;split<;>rfl
section
variable{G:Gd}{ah:Heap}{Fa:aP G ah}{N:Nat}{cx:Cx}{F:FZ}{ρ:List Addr}{objs:az}{X:List (Addr×Obj)}{h:Heap}{scope:Scope}{dD:Nat->Option Str}{cl:List (Str×Addr)}{C:Addr}
theorem mO.G1(K:mO cx scope dD)(ok:oQ cx)(e:scope.names.lookup x=some k):(An cx scope cl C dD).en.kindOf x=some (if k= .free then .cell else k):=by
 refine(gO cx.en scope.names x).trans ?_;rw[e];refine congrArg some ?_;unfold OQ
 by_cases q:k= .free
 ·subst q;rw[bw rfl,ok.kind,K.free _ (bX e) rfl];rfl
 ·rw[aZ q,aZ];exact λz=>q (eq_of_beq (bA (bA z).1).1)
theorem mO.cxs(K:mO cx scope dD)(ok:oQ cx)(hl:∀x c,cl.lookup x=some c->cx.en.cells.lookup x=some c)(hC:C ∉ nL cx.en):oQ (An cx scope cl C dD)where
 kind:=K.kind
 glob:=ok.glob
 blt:=ok.blt
 names:=K.names
 inj:=K.inj
 Il:=λx y c a b=>ok.Il x y c (hl _ _ a) (hl _ _ b)
 Em:=λx c a(q:c=C)=>hC (by rw[<-q];exact jr (hl _ _ a))
 sub:=λa h=>by cases h with |head=>exact .head _ |tail _ h=>cases h
 KR:= .head _
theorem mO.has(K:mO cx scope dD)(ok:oQ cx)(H:Dq cx X)(hp:∀p ∈ cl,cx.en.cells.lookup p.1=some p.2)(hf:∀y ∈ scope.names,y.2= .free->cl.lookup y.1=cx.en.cells.lookup y.1)
  (hd:oC.data= .dict es ep)(hs:StrKeys es):Dq (An cx scope cl C dD) ((C,oC)::X)where
 loc:=⟨oC,es,ep, .head _,hd,hs⟩
 cell:=λx hx=>by
  cases hk:scope.names.lookup x with
  |none=>rw[show(An cx scope cl C dD).en.kindOf x=none from(gO cx.en scope.names x).trans (by rw[hk];rfl)]at hx;cases hx
  |some k=>
   rw[K.G1 ok hk]at hx;have hm:=bX hk
   by_cases q:k= .free
   ·clear hk hx;subst q;exact(H.cell x (K.free _ hm rfl)).rec λc o v h1 h2 h3=>⟨c,o,v,(hf _ hm rfl).trans h1, .tail _ h2,h3⟩
   ·rw[aZ q]at hx;cases hx;exact absurd rfl (K.qo _ hm)
 own:=λa ha=>by
  rcases cN.mp ha with q |q
  ·exact q▸ .head _
  ·clear ha;obtain⟨p,K_,rfl⟩:=mM q;exact .tail _ (H.own _ (jr (hp p K_)))
end
noncomputable abbrev l0(ifs:List PySem.Expr)(env:Env):Sem Bool:=forIn ifs true λc r=>if r=true then do let ok <-isTrue c env (eval c env);pure (ForInStep.yield ok)else pure (ForInStep.yield r)
noncomputable def Ru:List Nat->bL->bL
 | [],loc=>loc
 |i::is,loc=>(Ru is loc).set i none
theorem xF:∀{is:List Nat}{loc:bL}{i:Nat}{v:V},(Ru is loc)[i]? =some (some v)->loc[i]? =some (some v)/\i ∉ is
 | [],_,_,_,h=>⟨h,λq=>nomatch q⟩
 |_::_,_,_,_,h=>by
  rcases jn h with⟨_,q⟩ |⟨q,h⟩
  ·cases q
  ·exact⟨(xF h).1,λz=>by rcases cN.mp z with z |z;exact q z;exact(xF h).2 z⟩
theorem oi{C:aR β->Prop}{G':Prop}(h0:¬C .stuck)(P:C ((quiet r).bind f))(k:∀a o,r= .ok a o->C (f a o)->G'):G':=by
 cases r with
 |ok a o=>exact k a o rfl P
 |exc=>exact absurd P h0
 |stuck=>exact absurd P h0
theorem ju{C:aR β->Prop}(h0:¬C .stuck)(P:C (bz b r)):b=true/\C r:=by
 cases b with
 |true=>exact⟨rfl,P⟩
 |false=>exact absurd P h0
section
variable{α β:Type}{G:Gd}{ah:Heap}{Fa:aP G ah}{N:Nat}{cx:Cx}{scope:Scope}{dD:Nat->Option Str}
theorem mO.loc'(K:mO cx scope dD)(ok:oQ cx)(hf:∀y ∈ scope.names,y.2= .free->cl.lookup y.1=cx.en.cells.lookup y.1)(L:aW G F ρ cx X loc)(p:Addr×Obj)
  (hn:∀i x,dD i=some x->scope.names.lookup x=some .local->i ∈ own)(H:Dq (An cx scope cl C dD) (p::X)):aW G F ρ (An cx scope cl C dD) (p::X) (Ru own loc):=⟨λi x v hv he=>by
 obtain⟨he,ni⟩:=xF he;rcases K.vis i x hv with h1 |⟨h1,h2⟩
 ·exact absurd (hn i x hv h1) ni
 ·obtain⟨u,a,b⟩:=L.vars i x v h2 he;have hm:=bX h1;have kc:=K.free _ hm rfl;refine⟨u,a.rec (λk Z Z Z Z Z Z Z=>by rw[kc]at k;cases k) λc o k l m d=> .cell c o (.inl ((K.G1 ok h1).trans rfl)) ((hf _ hm rfl).trans l) (.tail _ m) d,b⟩,H⟩
noncomputable def qD(Fa:aP G ah)(N:Nat)(cx:Cx)(ifs:List PySem.Expr)(t:DT):Prop:=∀(A:Around)(s:Shared)(loc:bL)(objs:az)(F:FZ)(ρ:List Addr)(X:List (Addr×Obj))(Q:Bool->Shared->Prop)(E:Value->Shared->Prop),
 c8 A N->iO A X->SR G ah F ρ objs X s.heap->aW G F ρ cx X loc->aS Fa bT A F ρ X s Q E (t loc objs)->wpAny (model PR G.w) A (l0 ifs cx.en) Q E s
theorem Ey:qD Fa N cx [] bN:=λA s loc objs F ρ X Q E R X' S L P=>wpAny_tests_nil (P true F ρ s.heap s.toks (Sub.refl F) (fc ρ) S rfl)
theorem Ew(h:ST Fa N cx c t):qD Fa N cx [c] t:=λA s loc objs F ρ X Q E R X' S L P=>wpAny_tests_one (h A s loc objs F ρ X Q E R X' S L P)
noncomputable def jO(pn:Option Nat)(bd:V->bL->az->aR bL)(t:DT)(st:α->bL->az->aR (α×bL))(iP:α->bL->az->aR β):List V->α->bL->az->aR β
 | [],a,loc,o=>bz (jI pn o) (iP a loc o)
 |v::vs,a,loc,o=>bz (jI pn o) ((quiet (bd v loc o)).bind λloc o=>(quiet (t loc o)).bind λb o=>
   if b=true then(quiet (st a loc o)).bind λal o=>jO pn bd t st iP vs al.1 al.2 o else jO pn bd t st iP vs a loc o)
noncomputable def gZ(G:Gd)(ah:Heap)(cx:Cx)(AR:FZ->Addr->α->Obj->Prop)(F:FZ)(ρ:List Addr)(X:List (Addr×Obj))(D:Addr)(s:Shared)(Q:Unit->Shared->Prop):aR (α×bL)->Prop
 | .ok al o=>∀F' ρ' X' h' tk Sp,Sub F F'->ρ <+:ρ'->XS cx.own X X'->SR G ah F' ρ' o ((D,Sp)::X') h'->aW G F' ρ' cx X' al.2->AR F' D al.1 Sp->Q () {s with heap:=h',toks:=tk}
 |_=>False
noncomputable def Vd(Fa:aP G ah)(N:Nat)(cx:Cx)(AR:FZ->Addr->α->Obj->Prop)(emit:Addr->Sem Unit)(st:α->bL->az->aR (α×bL)):Prop:=
 ∀(A:Around)(s:Shared)(loc:bL)(objs:az)(F:FZ)(ρ:List Addr)(X:List (Addr×Obj))(D:Addr)(a:α)(oD:Obj)(Q:Unit->Shared->Prop)(E:Value->Shared->Prop),
 c8 A N->iO A X->SR G ah F ρ objs ((D,oD)::X) s.heap->aW G F ρ cx X loc->AR F D a oD->gZ G ah cx AR F ρ X D s Q (st a loc objs)->wpAny (model PR G.w) A (emit D) Q E s
inductive VB(G:Gd)(ah:Heap)(cx:Cx)(AR:FZ->Addr->α->Obj->Prop)(D:Addr)(F:FZ)(ρ:List Addr)(Y:List (Addr×Obj))(s:Shared)(C:aR β->Prop)(items:List V)(J:FZ->List Addr->Nat->List (Addr×Obj)->Prop)(r:Nat->α->bL->az->aR β)(n:Nat):Shared->Prop
 |mk (k:Nat) (loc:bL) (objs:az) (cK:FZ) (bC:List Addr) (c7 qC:List (Addr×Obj)) (oD:Obj) (h:Heap) (tk:Nat) (a:α) (e:n=items.length - k) (f:Sub F cK) (p:ρ <+:bC) (x:XS cx.own Y qC) (S:SR G ah cK bC objs (c7++((D,oD)::qC)) h) (L:aW G cK bC cx qC loc)
   (j:J cK bC k c7) (ar:AR cK D a oD) (P:C (r k a loc objs)):VB G ah cx AR D F ρ Y s C items J r n {s with heap:=h,toks:=tk}
theorem tN{AR:FZ->Addr->α->Obj->Prop}{st:α->bL->az->aR (α×bL)}
  {D:Addr}{oD:Obj}{F:FZ}{ρ:List Addr}{objs:az}{cz Y:List (Addr×Obj)}{loc:bL}{items:List V}{pn:Option Nat}{it:Value}{a:α}{J:FZ->List Addr->Nat->List (Addr×Obj)->Prop}
  (hturn:compTurn e depth it (.ref D) cx.en=(do
   standAt p
   match <-pyNext it with
   |none=>pure (.done .next)
   |some v=>do
    letOwnedTupleGo tg it v
    assign tg cx.en v
    let ok <-l0 ifs cx.en
    if ok=true then emit D
    again (.compLoop e depth it (.ref D) cx.en)))
  (Xg:A.under (Code.compLoop e depth it (.ref D) cx.en)=A)(Xv:(model PR G.w).den (Code.compLoop e depth it (.ref D) cx.en)=(compTurn e depth it (.ref D) cx.en).onRaise (λx=>do noteFrame x cx.en;theTreesLotGoes x))
  (Rm:c8 A N)(ok:oQ cx)(arm:∀{F F':FZ}{a:α}{o:Obj},AR F D a o->Sub F F'->AR F' D a o)(ht:NU (G:=G) (ah:=ah) cx tg bd)(hi:qD Fa N cx ifs t)(hf:Vd Fa N cx AR emit st)(I:Rw G ah pn items it tg J)
  (S:SR G ah F ρ objs (cz++((D,oD)::Y)) s.heap)(L:aW G F ρ cx Y loc)(FX:iO A Y)(j:J F ρ 0 cz)(ha:AR F D a oD){C:aR β->Prop}(h0:¬C .stuck)(P:C (jO pn bd t st iP items a loc objs))
  (hR:∀a loc o,C (iP a loc o)->∀F' ρ' Y' h' tk Sp,Sub F F'->ρ <+:ρ'->XS cx.own Y Y'->SR G ah F' ρ' o ((D,Sp)::Y') h'->aW G F' ρ' cx Y' loc->AR F' D a Sp->R (.ok .next) {s with heap:=h',toks:=tk}):
  codeAny (model PR G.w) A (.compLoop e depth it (.ref D) cx.en) R s:=by
 refine codeAny_loop rfl (λn s'=>VB G ah cx AR D F ρ Y s C items J (λk a=>jO pn bd t st iP (items.drop k) a) n s') ?_ items.length
  ⟨0,loc,objs,F,ρ,cz,Y,oD,s.heap,s.toks,a,rfl,Sub.refl _,fc _,XS.refl _ _,S,L,j,ha,P⟩
 rintro n s' ⟨k,loc',objs',cK,bC,c7,qC,l_,h₂,t₂,a₂,rfl,f2,p2,x2,S2,L2,J2,r2,P2⟩
 rw[Xg,Xv];refine wpAny_noted ?_;rw[hturn];refine bf (uo (bf ?_));cases hv:items[k]? with
 |none=>
  rw[List.drop_eq_nil_of_le (Dy.mp hv)]at P2;obtain⟨hp,P2⟩:=ju h0 P2;exact I.done Rm.1 S2 J2 hp hv λh₃ t₃ S3=>dz (hR a₂ loc' objs' P2 cK bC qC h₃ t₃ l_ f2 p2 x2 S3 L2 r2)
 |some v=>
  have hk:k < items.length:=(nc.mp hv).1;rw[List.drop_eq_getElem_cons hk,(nc.mp hv).2]at P2;obtain⟨hp,P2⟩:=ju h0 P2;refine I.next Rm.1 S2 J2 hp hv λu s₂ hown=> ?_;dsimp only;refine bf (hown _ _ λeY iA h₃ t₃ f3 ea J3 S3 w3=> ?_);have W4:=S3.nodup;have nX:∀q ∈ iA,q.1 ∉ nL cx.en:=λq hq=>vP W4 (L2.has.cons _) q hq;have n2:(((D,l_)::qC).map (λZ=>Z.1)).Nodup:=(nk.mp (fZ▸W4)).2.1;have nD:D ∉ nL cx.en:=λhm=>(fU.mp n2).1 (L2.has.own _ hm);have nW:∀p ∈ iA,p.1 ∉ cx.own:=λp hp hm=>nX p hp (ok.sub _ hm);have L3:aW G eY bC cx qC loc':=L2.mono f3 (fc _);refine oi h0 P2 λl₁ o₁ hb P2=>bf (ht A _ loc' objs' eY bC (iA++((D,l_)::qC)) _ _ v u Rm.1 S3 ((L3.cons _).app _) w3 ?_);rw[hb];intro Yv h₄ t₄ x4 S4 L4;refine cps λPP kk=> ?_;obtain⟨UX,rfl,x5⟩:=XS.qb x4 nW W4;obtain⟨II,rfl,x6⟩:=XS.under x5 (λhm=>nD (ok.sub _ hm)) n2;refine kk ?_;clear kk;have L5:aW G eY bC cx II l₁:=(L4.B5 nX).n7 nD;have Z8:iO A II:=x6.Np _ (x2.Np _ FX);refine oi h0 P2 λb o₂ hc P2=>bf (hi A _ l₁ o₁ eY bC _ _ _ Rm ((Z8.cons _).app _) S4 L4 ?_);rw[hc];intro b' Jl uS h₆ E6 f6 p6 S6 w6;cases w6;have Rr:=f3.trans f6;have J6:=I.mono J3 f6 p6;have L6:=L5.mono f6 p6;clear f6 hc L5 x5 w3 J3 ea f3;cases b with
  |false=>exact dz ⟨rfl,items.length - (k+1),by exact Nat.sub_succ_lt_self _ _ hk,k+1,l₁,o₂,Jl,uS,iA,II,l_,h₆,E6,a₂,rfl,f2.trans Rr,p2.trans p6,x2.trans x6,S6,L6,J6,arm r2 Rr,P2⟩
  |true=>
   have Z5:=S6.perm (X':=(D,l_)::(iA++II)) List.perm_middle.symm;refine oi h0 P2 λal o₃ hy P2=>bf (hf A _ l₁ o₂ Jl uS (iA++II) D a₂ l_ _ _ Rm (Z8.app _) Z5 (L6.app _) (arm r2 Rr) ?_);rw[hy];intro Jk uR BJ nG JR Sn f7 p7 x7 S7 L7 r7;refine cps λPP kk=> ?_;obtain⟨Yt,rfl,x8⟩:=XS.qb x7 nW (fU.mp Z5.nodup).2;refine kk ?_;clear kk PP;exact dz ⟨rfl,items.length - (k+1),by exact Nat.sub_succ_lt_self _ _ hk,k+1,al.2,o₃,Jk,uR,iA,Yt,Sn,nG,JR,al.1,rfl,f2.trans (Rr.trans f7),p2.trans (p6.trans p7),x2.trans (x6.trans x8),S7.perm List.perm_middle,L7.B5 nX,I.mono J6 f7 p7,r7,P2⟩
end
section
variable{α β:Type}{G:Gd}{ah:Heap}{Fa:aP G ah}{N:Nat}{cx:Cx}{scope:Scope}{dD:Nat->Option Str}
inductive Vi(G:Gd)(ah:Heap)(F:FZ)(ρ:List Addr)(X:List (Addr×Obj))(h:Heap)(D:Addr)(v:V)(o:az):Prop
 |mk (F':FZ) (ρ':List Addr) (f:Sub F F') (p:ρ <+:ρ') (S:SR G ah F' ρ' o X h) (w:WR G F' ρ' v (.ref D))
noncomputable def xP(G:Gd)(ah:Heap)(AR:FZ->Addr->α->Obj->Prop)(out:α->az->aR V):Prop:=∀{F:FZ}{ρ:List Addr}{X:List (Addr×Obj)}{h:Heap}{D:Addr}{a:α}{oD:Obj}{v:V}{o o':az},
 AR F D a oD->(D==sysModules)=false->SR G ah F ρ o ((D,oD)::X) h->out a o= .ok v o'->Vi G ah F ρ X h D v o'
noncomputable def Bv(pn:Option Nat)(out:α->az->aR V)(a:α)(_:bL)(o:az):aR V:=bx (qI pn o) (out a)
theorem Pk{X Y:List (Addr×Obj)}(e:Y.map (λZ=>Z.1)=X.map (λZ=>Z.1))(nd:(X.map (λZ=>Z.1)).Nodup)(hs:∀p ∈ X,p ∈ Y):Y=X:=by
 induction X generalizing Y with
 |nil=>exact List.map_eq_nil_iff.mp e
 |cons z Z ih=>
  rcases Y with _ |⟨y,Y⟩
  ·cases e
  obtain⟨e1,e2⟩:=nY e;have e2:Y.map (λZ=>Z.1)=Z.map (λZ=>Z.1):=e2;have nz:=fU.mp nd;have q:z=y:=(cN.mp (hs z (.head _))).resolve_right λq=>nz.1 (e2▸jg q);clear e1 e;subst q;rw[ih e2 nz.2 λp hp=>sO (hs p (.tail _ hp)) λq=>nz.1 (by have:=jg hp;rw[q]at this;exact this)]
structure z8(G:Gd)(e tg:PySem.Expr)(ifs:List PySem.Expr)(p:Pos)(AR:FZ->Addr->α->Obj->Prop)(emit:Env->Addr->Sem Unit)(a₀:α)(o₀:Obj)(newAcc:Sem Value):Prop where
 turn:∀(it:Value)(D:Addr)(env:Env),compTurn e 0 it (.ref D) env=(do
   standAt p
   match <-pyNext it with
   |none=>pure (.done .next)
   |some v=>do
    letOwnedTupleGo tg it v
    assign tg env v
    let ok <-l0 ifs env
    if ok=true then emit env D
    again (.compLoop e 0 it (.ref D) env))
 VE:∀(A:Around)(it:Value)(D:Addr)(env:Env),A.under (Code.compLoop e 0 it (.ref D) env)=A
 den:∀(it:Value)(D:Addr)(env:Env),(model PR G.w).den (Code.compLoop e 0 it (.ref D) env)=(compTurn e 0 it (.ref D) env).onRaise (λx=>do noteFrame x env;theTreesLotGoes x)
 start:∀{A:Around}{s:Shared}{R:Result->Shared->Prop}{it acc:Value}{env:Env},codeAny (model PR G.w) A (.compLoop e 0 it acc env) R s->wpAny (model PR G.w) A (pyIter it) (λit' s'=>codeAny (model PR G.w) A (.compLoop e 0 it' acc env) R s') (notedBy (model PR G.w) A env λx s'=>R (.error x) s') s->codeAny (model PR G.w) A (.compStart e 0 it acc env) R s
 new:∀{A:Around}{s:Shared}{Q:Value->Shared->Prop}{E:Value->Shared->Prop},Q (.ref s.heap.objs.size) {s with heap:=s.heap.push o₀}->wpAny (model PR G.w) A newAcc Q E s
 fresh:o₀.isFreed=false
 Wb:∀F D,AR F D a₀ o₀
 arm:∀{F F':FZ}{D:Addr}{a:α}{o:Obj},AR F D a o->jF F F'->AR F' D a o
structure Ae(Fa:aP G ah)(N:Nat)(cx:Cx)(scope:Scope)(dD:Nat->Option Str)(iter tg:PySem.Expr)(ifs:List PySem.Expr)(own:List Nat)(g:DI)(bd:V->bL->az->aR bL)(t:DT)(AR:FZ->Addr->α->Obj->Prop)(emit:Env->Addr->Sem Unit)(st:α->bL->az->aR (α×bL)):Prop where
 ok:oQ cx
 K:mO cx scope dD
 hg:Ma Fa N cx iter tg g
 hbd:∀cl C,oQ (An cx scope cl C dD)->NU (G:=G) (ah:=ah) (An cx scope cl C dD) tg bd
 hi:∀cl C,oQ (An cx scope cl C dD)->qD Fa N (An cx scope cl C dD) ifs t
 hf:∀cl C,oQ (An cx scope cl C dD)->Vd Fa N (An cx scope cl C dD) AR (emit (An cx scope cl C dD).en) st
 hn:∀i x,dD i=some x->scope.names.lookup x=some .local->i ∈ own
 hs:∀x,foldedSetIterable iter cx.en x=pure x
theorem zL{st:α->bL->az->aR (α×bL)}
  {RR:Value->Addr->Result->Shared->Prop}{E:Value->Shared->Prop}
  {F F':FZ}{ρ:List Addr}{objs:az}{X cz:List (Addr×Obj)}{loc:bL}{items:List V}{pn:Option Nat}{it:Value}{cl:List (Str×Addr)}{own:List Nat}{J:FZ->List Addr->Nat->List (Addr×Obj)->Prop}
  (T:z8 G e tg ifs p AR emit a₀ o₀ newAcc)(Z:Ae Fa N cx scope dD iter tg ifs own g bd t AR emit st)(hout:xP G ah AR out)(Hw:∀a o,dY (out a o))(Rm:c8 A N)(hcl:Du scope cx.en cl)
  (S:SR G ah F' ρ objs (cz++X) s.heap)(pr:tZ F F' ρ pn)(L:aW G F ρ cx X loc)(FX:iO A X)(I:Rw G ah pn items it tg J)(j:J F' ρ 0 cz){C:aR V->Prop}(h0:¬C .stuck)
  (P:C (jO pn bd t st (Bv pn out) items a₀ (Ru own loc) objs))
  (hR:∀v o,C (.ok v o)->∀D C' oC eX ρ' h' tk,Sub F eX->ρ <+:ρ'->SR G ah eX ρ' o ((C',oC)::X) h'->WR G eX ρ' v (.ref D)->C' ∉ nL cx.en->(∃m,h'.Ns C' m)->RR (.ref D) C' (.ok .next) {s with heap:=h',toks:=tk}):
  wpAny (model PR G.w) A newAcc (λacc s₃=>wpAny (model PR G.w) A (newFunctionEnv scope cx.en.globals cl [] cx.en.qual none .none (some cx.en)) (λcenv s₄=>
   codeAny (model PR G.w) A (.compStart e 0 it acc {cenv with scope:=relabel scope cx.en}) (RR acc cenv.locals) s₄) E s₃) E s:=by
 have K:=Z.K;have ok:=Z.ok;refine T.new (wpAny_newFunctionEnv K.qo (λy hy=>nomatch hy) (λh₁ Bk wZ=> ?_) K.kind);dsimp only at Bk wZ⊢;have S1:=S.cR (o:=o₀) T.fresh;generalize s.heap.push o₀=H2 at S1 Bk wZ;have S2:=S1.cR (o:={cls:= .type "dict",data:= .dict #[]}) rfl;refine cps λPP kk=> ?_;obtain⟨oC,es,ep,g1,g2,g3,g4⟩:=Bk;refine kk ?_;clear kk;have S3:=SR.lX S2 wZ g1;have nC:H2.objs.size ∉ nL cx.en:=λq=>(fU.mp S3.nodup).1 (by
  rw[qY,fZ];exact .tail _ (iF _ (L.has.own _ q)))
 have Si:=K.cxs (cl:=cl) (C:=H2.objs.size) ok (λ_ _ h=>hcl.sub h) nC;have TX:=K.has (C:=H2.objs.size) ok L.has hcl.all hcl.has g2 g3;have sF:jF F F':=λa ob q=>(congrFun pr.fst a).trans q;have SJ:=K.loc' (own:=own) (C:=H2.objs.size) ok hcl.has (L.bE sF (fc _)) (H2.objs.size,oC) Z.hn TX;have S4:SR G ah F' ρ objs (cz++((s.heap.objs.size,o₀)::(H2.objs.size,oC)::X)) h₁:=S3.perm
  ((List.perm_middle.trans (List.perm_middle.cons _)).trans (List.Perm.swap _ _ _))
 have Ze:(((H2.objs.size,oC)::X).map (λZ=>Z.1)).Nodup:=(fU.mp (nk.mp (fZ▸S4.nodup)).2.1).2;have loop:codeAny (model PR G.w) A (.compLoop e 0 it (.ref s.heap.objs.size) (An cx scope cl H2.objs.size dD).en) (RR (.ref s.heap.objs.size) H2.objs.size) {s with heap:=h₁,toks:=s.toks+([]:List (Str×Value)).length}:=by
  refine tN (T.turn _ _ _) (T.VE _ _ _ _) (T.den _ _ _) Rm Si (λr f=>T.arm r f.1) (Z.hbd _ _ Si) (Z.hi _ _ Si) (Z.hf _ _ Si) I S4 SJ (FX.cons _) j (T.Wb _ _) h0 P λa loc' o P cK bC qC h₂ t₂ l_ f2 p2 x2 S5 L5 r5=> ?_;refine cps λPP kk=> ?_;obtain⟨⟨C',Sq⟩,BJ,rfl⟩:∃pC BJ,qC=pC::BJ:=by rcases qC with _ |⟨a,b⟩;cases x2.addr;exact⟨a,b,rfl⟩
  obtain⟨e1,e2⟩:=nY x2.addr;refine kk ?_;clear kk;cases e1;have ne:∀p ∈ X,p.1≠H2.objs.size:=λp hp q=>(fU.mp Ze).1 (by have:=jg hp;rw[q]at this;exact this);clear S4 SJ sF TX Si S3 g4 g3 g2 g1 S2 S1 wZ K j I FX L S hcl Rm Z J it;cases Pk e2 (fU.mp Ze).2 λp hp=>sO (x2.keep p (.tail _ hp) λq=>ne p hp (dQ.mp q)) (ne p hp);refine cA (C:=C) h0 P λo' hu P=> ?_;obtain⟨eX,f4,e4,S6⟩:=rP pr f2 p2 S5 hu;have ns:∃m,h₂.Ns H2.objs.size m:=L5.has.loc.rec λo es ep a b c=>let⟨o',g,gd⟩:=S5.zB (p:=(H2.objs.size,o)) (.tail _ a);⟨_,o',es,ep,g,gd.trans b,c,λ_=>rfl⟩;cases hq:out a o' with
  |stuck=>rw[hq]at P;exact absurd P h0
  |exc x o=>exact absurd hq (Hw a o' x o)
  |ok v Rh=>
   rw[hq]at P;exact(hout (T.arm r5 λa ob q=>(congrFun e4 a).trans q) (S6.sD Fa (S6.lC _ (.head _))) S6 hq).rec λz9 x_ f5 p5 S7 w=>hR v Rh P _ _ Sq z9 x_ h₂ t₂ (f4.trans f5) (p2.trans p5) S7 w nC ns
 exact T.start loop (I.self S4 j loop)
end
theorem RE(elt tg iter:PySem.Expr)(ifs:List PySem.Expr)(scope:Scope)(pos:Pos)(it:Value)(D:Addr)(env:Env):
 compTurn (.ListComp elt [⟨tg,iter,ifs,0⟩] scope pos) 0 it (.ref D) env=(do
   standAt iter.pos
   match <-pyNext it with
   |none=>pure (.done .next)
   |some v=>do
    letOwnedTupleGo tg it v
    assign tg env v
    let ok <-l0 ifs env
    if ok=true then(do let x <-eval elt env;let _ <-call (.builtin "list.append") [.ref D,x])
    again (.compLoop (.ListComp elt [⟨tg,iter,ifs,0⟩] scope pos) 0 it (.ref D) env)):=by rfl
theorem RG(kx vx tg iter:PySem.Expr)(ifs:List PySem.Expr)(scope:Scope)(pos:Pos)(it:Value)(D:Addr)(env:Env):
 compTurn (.DictComp kx vx [⟨tg,iter,ifs,0⟩] scope pos) 0 it (.ref D) env=(do
   standAt iter.pos
   match <-pyNext it with
   |none=>pure (.done .next)
   |some v=>do
    letOwnedTupleGo tg it v
    assign tg env v
    let ok <-l0 ifs env
    if ok=true then(do let kv <-eval kx env;let vv <-holding [kv] (eval vx env);standAt {kx.pos with endLine:=vx.pos.endLine,endCol:=vx.pos.endCol};holding [kv,vv] (dictSet D kv vv))
    again (.compLoop (.DictComp kx vx [⟨tg,iter,ifs,0⟩] scope pos) 0 it (.ref D) env)):=by rfl
theorem Oj(elt tg iter n9 cE:PySem.Expr)(ifs gW:List PySem.Expr)(scope:Scope)(pos:Pos)(it:Value)(D:Addr)(env:Env):
 compTurn (.ListComp elt [⟨tg,iter,ifs,0⟩,⟨n9,cE,gW,0⟩] scope pos) 0 it (.ref D) env=(do
   standAt iter.pos
   match <-pyNext it with
   |none=>pure (.done .next)
   |some v=>do
    letOwnedTupleGo tg it v
    assign tg env v
    let ok <-l0 ifs env
    if ok=true then
     let x <-eval cE env
     standAt cE.pos
     let x <-foldedSetIterable cE env x
     let it2 <-holding [x] (pyIter x)
     let _ <-runOwn (.compStart (.ListComp elt [⟨tg,iter,ifs,0⟩,⟨n9,cE,gW,0⟩] scope pos) 1 it2 (.ref D) env) env
    again (.compLoop (.ListComp elt [⟨tg,iter,ifs,0⟩,⟨n9,cE,gW,0⟩] scope pos) 0 it (.ref D) env)):=by rfl
theorem RH(elt tg iter n9 cE:PySem.Expr)(ifs gW:List PySem.Expr)(scope:Scope)(pos:Pos)(it:Value)(D:Addr)(env:Env):
 compTurn (.ListComp elt [⟨tg,iter,ifs,0⟩,⟨n9,cE,gW,0⟩] scope pos) 0 it (.ref D) env=(do
   standAt iter.pos
   match <-pyNext it with
   |none=>pure (.done .next)
   |some v=>do
    letOwnedTupleGo tg it v
    assign tg env v
    let ok <-l0 ifs env
    if ok=true then(do let x <-eval cE env;standAt cE.pos;let x <-foldedSetIterable cE env x;let _ <-runOwn (.compStart (.ListComp elt [⟨tg,iter,ifs,0⟩,⟨n9,cE,gW,0⟩] scope pos) 1 (<-holding [x] (pyIter x)) (.ref D) env) env)
    again (.compLoop (.ListComp elt [⟨tg,iter,ifs,0⟩,⟨n9,cE,gW,0⟩] scope pos) 0 it (.ref D) env)):=by
 rw[Oj];simp only[bind_assoc,pure_bind]
theorem Ol(elt tg iter n9 cE:PySem.Expr)(ifs gW:List PySem.Expr)(scope:Scope)(pos:Pos)(it:Value)(D:Addr)(env:Env):
 compTurn (.ListComp elt [⟨tg,iter,ifs,0⟩,⟨n9,cE,gW,0⟩] scope pos) 1 it (.ref D) env=(do
   standAt cE.pos
   match <-pyNext it with
   |none=>pure (.done .next)
   |some v=>do
    letOwnedTupleGo n9 it v
    assign n9 env v
    let ok <-l0 gW env
    if ok=true then(do let x <-eval elt env;let _ <-call (.builtin "list.append") [.ref D,x])
    again (.compLoop (.ListComp elt [⟨tg,iter,ifs,0⟩,⟨n9,cE,gW,0⟩] scope pos) 1 it (.ref D) env)):=by rfl
section
variable{α β γ:Type}{G:Gd}{ah:Heap}{Fa:aP G ah}{N:Nat}{cx:Cx}{scope:Scope}{dD:Nat->Option Str}
theorem gZ.mono{D:Addr}(P:gZ G ah cx AR F ρ X D s Q r)(f:Sub F F')(p:ρ <+:ρ'):gZ G ah cx AR F' ρ' X D {s with heap:=h,toks:=tk} Q r:=by
 cases r with
 |ok al o=>exact λcK bC c7 h₂ t₂ l_ a b=>P cK bC c7 h₂ t₂ l_ (f.trans a) (p.trans b)
 |exc=>exact P
 |stuck=>exact P
theorem gZ.next{D:Addr}(P:gZ G ah cx AR F ρ X D s Q (r.bind f))
  (k:∀u a o F' ρ' h' tk,Sub F F'->ρ <+:ρ'->SR G ah F' ρ' o X' h'->rel F' ρ' a u->gZ G ah cx AR F' ρ' X D {s with heap:=h',toks:=tk} Q (f a o)->Q₁ u {s with heap:=h',toks:=tk}):aS Fa rel A F ρ X' s Q₁ E r:=by
 cases r with
 |ok v o=>exact λu F' ρ' h' tk a b c d=>k u v o F' ρ' h' tk a b c d (gZ.mono P a b)
 |exc=>exact P.elim
 |stuck=>exact P
noncomputable def Nz(elt:PySem.Expr)(env:Env)(D:Addr):Sem Unit:=do
 let x <-eval elt env
 let _ <-call (.builtin "list.append") [.ref D,x]
noncomputable abbrev EE(G:Gd)(F:FZ)(_:Addr)(acc:List D)(o:Obj):Prop:=t7 G F acc o
noncomputable def gu(f:DE)(acc:List D)(loc:bL)(o:az):aR (List D×bL):=(f loc o).bind λy o=>(rC y o).bind λd o=>bz (c6 acc.length) (.ok (acc++[d],loc) o)
theorem zX(hf:SE Fa N cx elt f):Vd Fa N cx (EE G) (Nz elt cx.en) (gu f):=λA s loc objs F ρ X D a oD Q E Rm FX S L ha P=>ha.rec λvs n eo V=>by
 clear ha;subst eo;refine bf (hf A s loc objs F ρ ((D,dF vs n)::X) _ _ Rm (FX.cons _) S (L.cons _) (gZ.next P λuy y o₁ Jk uR nG JR f7 p7 S7 w7 P=> ?_));cases hm:rC y o₁ with
 |stuck=>rw[hm]at P;exact P.elim
 |exc x o=>exact absurd hm (pI x o)
 |ok d o₂=>
  rw[hm]at P;obtain⟨hz,P⟩:=ju (C:=gZ G ah cx (EE G) Jk uR X D _ Q) id P;refine(S7.rC Fa w7 hm).rec λBW f8 S8 v8=> ?_;refine bf (wpAny_list_append_plain (items:=vs.toArray) ⟨n,(S8.ext (D,dF vs n) (.head _)).1⟩ (λPI hp9 Xj=> ?_) ?_)
  ·obtain⟨m',hm'⟩:=hp9;have e9:({cls:= .type "list",data:= .seq (vs.toArray.push uy) m'}:Obj)=dF (vs++[uy]) m':=by rw[List.push_toArray]
   rw[e9]at hm';exact dz (P BW uR X PI JR _ f8 (fc _) (XS.refl _ _) (SR.lX S8 Xj hm') (L.mono (f7.trans f8) p7) ⟨vs++[uy],m',rfl,cG.append (l':=[d]) ⟨uy,[],rfl,v8,rfl⟩ (V.mono (f7.trans f8))⟩)
  ·show vs.toArray.size<=_;rw[kj,V.length];exact cS (fk hz) (by decide)
noncomputable def bh(l:List D)(o:az):aR V:= .ok (.d (.list l)) o
noncomputable def zm(l:List D)(o:az):aR V:= .ok (.h o.length) (o++[.list l])
theorem Nf(h:Q (.ref s.heap.objs.size) {s with heap:=s.heap.push (dF [] 0)}):wpAny (model PR G.w) A (newList []) Q E s:=wpAny_newObj_type h
theorem F8:xP G ah (EE G) bh:=λar Z S e=>by
 cases e;exact ar.rec λvs n eo V=>by
  clear ar;subst eo;have hF:=S.lC _ (.head _);exact⟨_,_,bM _ hF,fc _,S.xj,⟨_,vs,n,rfl,cj _ _ _,V.mono (bM _ hF)⟩⟩
theorem F9:xP G ah (EE G) zm:=λ{F ρ X h D a oD v o o'} ar Z S e=>by
 cases e;have hm:nO (D,oD)=false:=ar.rec λZ Z e Z=>by rw[e];rfl
 exact⟨F,_,Sub.refl F,⟨_,rfl⟩,(S.less (List.sublist_cons_self _ _)).Fb (x:= .list a) (S.ext _ (.head _) hm).1 (S.lC _ (.head _)) (S.apart _ (.head _)) (λp hp q=>(fU.mp S.nodup).1 (by have:=jg hp;rw[q]at this;exact this)) ar,⟨D,by rw[<-S.len];exact AA,rfl⟩⟩
end
section
variable{α β:Type}{G:Gd}{ah:Heap}{Fa:aP G ah}{N:Nat}{cx:Cx}{scope:Scope}{dD:Nat->Option Str}
noncomputable def a_(own:List Nat)(g:DI)(bd:V->bL->az->aR bL)(t:DT)(st:α->bL->az->aR (α×bL))(a₀:α)(out:α->az->aR V):DE:=λloc o=>(g loc o).bind λip o=>jO ip.2 bd t st (Bv ip.2 out) ip.1 a₀ (Ru own loc) o
theorem zK{st:α->bL->az->aR (α×bL)}
  (T:z8 G e tg ifs p AR emit a₀ o₀ newAcc)(Z:Ae Fa N cx scope dD iter tg ifs own g bd t AR emit st)(hout:xP G ah AR out)(Hw:∀a o,dY (out a o))(hcl:clausesOf e=⟨tg,iter,ifs,0⟩::gs)
  (R:c8 A N)(X':iO A X)(S:SR G ah F ρ objs X s.heap)(L:aW G F ρ cx X loc){C:aR V->Prop}(h0:¬C .stuck)(P:C (a_ own g bd t st a₀ out loc objs))
  (hex:∀x o,C (.exc x o)->∀e F' ρ' h' tk,Sub F F'->ρ <+:ρ'->Fl G ah Fa.j4 A F' ρ' o X x e h'->E e {s with heap:=h',toks:=tk})
  (hR:∀v o,C (.ok v o)->∀D C' oC eX ρ' h' tk,Sub F eX->ρ <+:ρ'->SR G ah eX ρ' o ((C',oC)::X) h'->WR G eX ρ' v (.ref D)->C' ∉ nL cx.en->(∃m,h'.Ns C' m)->compPost (model PR G.w) A E use Q (.ref D) C' (.ok .next) {s with heap:=h',toks:=tk}):
  wpAny (model PR G.w) A (comprehension e scope cx.en pos newAcc false (eval iter cx.en) use) Q E s:=by
 obtain⟨cl,hc⟩:=tS (scope:=scope) (env:=cx.en) λy hy hf=>(L.has.cell y.1 (Z.K.free y hy hf)).rec λc U U h U U=>⟨c,h⟩;refine wpAny_comprehension_free hcl Z.hs hc.run Z.K.kind Z.K.Sx (Z.hg A s loc objs F ρ X _ E R X' S L ?_);unfold a_ at P;cases hr:g loc objs with
 |stuck=>rw[hr]at P;exact absurd P h0
 |exc x o=>rw[hr]at P;exact hex x o P
 |ok ip o=>
  rw[hr]at P;exact λit cz F' rJ ρ' h' tk J f1 p1 pr S1 I j=>zL (RR:=λacc C=>compPost (model PR G.w) A E use Q acc C) T Z hout Hw R hc S1 pr (L.mono f1 p1) X' I j h0 P λv o hv D C' oC eX kg h'' tk' f4 p4=>hR v o hv D C' oC eX kg h'' tk' (f1.trans f4) (p1.trans p4)
theorem SR.off(S:SR G ah F ρ objs ((C,o)::X) h)(hs:Heap.SameBut C h h'):SR G ah F ρ objs X h':=S.fall hs.extBut
theorem Dh{AR:FZ->Addr->α->Obj->Prop}{emit:Env->Addr->Sem Unit}{st:α->bL->az->aR (α×bL)}
  (T:z8 G e tg ifs p AR emit a₀ o₀ newAcc)(Z:Ae Fa N cx scope dD iter tg ifs own g bd t AR emit st)(hout:xP G ah AR out)(Hw:∀a o,dY (out a o))(hcl:clausesOf e=⟨tg,iter,ifs,0⟩::gs)(he:eval e cx.en=comprehension e scope cx.en pos newAcc false (eval iter cx.en)):
  SE Fa N cx e (a_ own g bd t st a₀ out):=λA s loc objs F ρ X Q E R X' S L P=>by
 rw[he];exact zK (use:=none) T Z hout Hw hcl R X' S L (C:=aS Fa (WR G) A F ρ X s Q E) id P (λU U P=>P) λv o P D C' oC eX kg h'' tk' f4 p4 S4 w4 nC ⟨m,ns⟩=>⟨m,ns,λh₃ kL=>P _ eX kg h₃ tk' f4 p4 (S4.off kL) w4⟩
theorem uQ{emit:Env->Addr->Sem Unit}{st:α->bL->az->aR (α×bL)}{iy:Nat}
  (hy:cx.vis iy=some y)(hk:IM cx y)
  (T:z8 G (.ListComp elt (⟨tg,iter,ifs,0⟩::gs) scope pos) tg ifs p AR emit a₀ o₀ (newList []))(Z:Ae Fa N cx scope dD iter tg ifs own g bd t AR emit st)(hout:xP G ah AR out)(Hw:∀a o,dY (out a o))
  (hsw:swapsWith (.ListComp elt (⟨tg,iter,ifs,0⟩::gs) scope pos) (some (.Name y yp)) spos.line cx.en=pure true):
  S1 Fa N cx (.Assign [.Name y yp] (.ListComp elt (⟨tg,iter,ifs,0⟩::gs) scope pos) spos) (ay iy (a_ own g bd t st a₀ out)):=by
 intro A s loc objs F ρ X Q E R X' S L P;rw[exec_Assign_Name_used _ _ _ _ hsw];refine bf (uo (bf ?_));show wpAny _ A (do let _ <-comprehension (.ListComp elt (⟨tg,iter,ifs,0⟩::gs) scope pos) scope cx.en _ (newList []) false (eval iter cx.en) (some (assign (.Name y yp) cx.en))) _ _ s;refine bf (pW (zK (use:=some (assign (.Name y yp) cx.en)) (Q:=λU s'=>Q .next s') T Z hout Hw rfl R X' S L (C:=λr=>bY Fa cx A F ρ X s Q E (r.bind λv o=> .ok (.next (loc.set iy (some v))) o)) id P (λx o P e F' ρ' h' tk a b c=>P e F' ρ' X h' tk a b (XS.refl _ _) c)
  λv o P D C oC eX kg h'' tk' f5 p5 S4 w4 nC ns=> ?_) (λU s' hq=>dz (dz hq)) λU U e=>e)
 show wpAny _ A (assign (.Name y yp) cx.en (.ref D)) _ _ _;refine wpAny_assign_Name (yq (X:=(C,oC)::X) Z.ok hy hk S4 ((L.mono f5 p5).cons _) w4 λc7 h₂ t₂ x2 S5 L2=> ?_);obtain⟨iA,rfl,x3⟩:=XS.under x2 (λq=>nC (Z.ok.sub _ q)) S4.nodup;obtain⟨m',ns⟩:=ns;exact⟨m',WV S4 (.head _) S5 (.head _) ns,λh₃ kL=>P eX kg iA h₃ t₂ f5 p5 x3 (S5.off kL) (L2.n7 nC)⟩
theorem D_:z8 G (.ListComp elt [⟨tg,iter,ifs,0⟩] scope pos) tg ifs iter.pos (EE G) (Nz elt) [] (dF [] 0) (newList [])where
 turn it D env:=RE elt tg iter ifs scope pos it D env
 VE _ _ _ _:=rfl
 den _ _ _:=rfl
 start h0 h:=codeAny_compStart_list h0 h
 new:=Nf
 fresh:=rfl
 Wb _ _:=⟨[],0,rfl,rfl⟩
 arm r s:=r.bE s
theorem Gr(a:List D)(o:az):dY (bh a o):= .ok
theorem HJ(a:List D)(o:az):dY (zm a o):= .ok
theorem OE
  (h0:codeAny (model prog w) A (.compLoop (.ListComp elt [⟨tg,iter,ifs,0⟩,⟨n9,cE,gW,0⟩] scope pos) 1 it acc env) R s)
  (h:wpAny (model prog w) A (pyIter it) (λit' s'=>codeAny (model prog w) A (.compLoop (.ListComp elt [⟨tg,iter,ifs,0⟩,⟨n9,cE,gW,0⟩] scope pos) 1 it' acc env) R s') (notedBy (model prog w) A env λx s'=>R (.error x) s') s):
  codeAny (model prog w) A (.compStart (.ListComp elt [⟨tg,iter,ifs,0⟩,⟨n9,cE,gW,0⟩] scope pos) 1 it acc env) R s:=by
 refine codeAny_of_tree ?_;show wpAny _ _ ((compStart (.ListComp elt [⟨tg,iter,ifs,0⟩,⟨n9,cE,gW,0⟩] scope pos) 1 it acc env).onRaise (λx=>do noteFrame x env;standAt theWindowsPlace)) _ _ s;refine wpAny_notedAt ?_;unfold compStart;show wpAny _ _ (ask >>= _) _ _ s;refine bf (wpAny_askSetting (wpAny_ite ?_));split
 ·first
   |exact bf (dz (dz (And.intro rfl h0)))
   |exact dz (And.intro rfl h0)
 ·first
   |exact bf (wpAny_rule (bf (uo (bf (pW h (λit' s' h'=>dz (And.intro rfl h')) λZ Z x=>x)))))
   |(refine bf (wpAny_rule ?_);show wpAny _ _ (standAt cE.pos >>= _) _ _ s;exact bf (uo (bf (pW h (λit' s' h'=>dz (And.intro rfl h')) λZ Z x=>x))))
noncomputable def H6(elt tg iter n9 cE:PySem.Expr)(ifs gW:List PySem.Expr)(scope:Scope)(pos:Pos)(env:Env)(D:Addr):Sem Unit:=do
 let x <-eval cE env
 standAt cE.pos
 let x <-foldedSetIterable cE env x
 let _ <-runOwn (.compStart (.ListComp elt [⟨tg,iter,ifs,0⟩,⟨n9,cE,gW,0⟩] scope pos) 1 (<-holding [x] (pyIter x)) (.ref D) env) env
theorem HO:z8 G (.ListComp elt [⟨tg,iter,ifs,0⟩,⟨n9,cE,gW,0⟩] scope pos) tg ifs iter.pos (EE G) (H6 elt tg iter n9 cE ifs gW scope pos) [] (dF [] 0) (newList [])where
 turn it D env:=RH elt tg iter n9 cE ifs gW scope pos it D env
 VE _ _ _ _:=rfl
 den _ _ _:=rfl
 start h0 h:=codeAny_compStart_list h0 h
 new:=Nf
 fresh:=rfl
 Wb _ _:=⟨[],0,rfl,rfl⟩
 arm r s:=r.bE s
noncomputable def X_(pn:Option Nat)(a:List D)(loc:bL)(o:az):aR (List D×bL):=bx (qI pn o) λo=> .ok (a,loc) o
noncomputable def RX(g:DI)(bd:V->bL->az->aR bL)(t:DT)(f:DE)(acc:List D)(loc:bL)(o:az):aR (List D×bL):=(g loc o).bind λip o=>jO ip.2 bd t (gu f) (X_ ip.2) ip.1 acc loc o
theorem Mc(ok:oQ cx)
  (hg:Ma Fa N cx cE n9 g)(ht:NU (G:=G) (ah:=ah) cx n9 bd)(hi:qD Fa N cx gW t)(hf:SE Fa N cx elt f)(hs:∀x,foldedSetIterable cE cx.en x=pure x):
  Vd Fa N cx (EE G) (H6 elt tg iter n9 cE ifs gW scope pos cx.en) (RX g bd t f):=by
 intro A s loc objs F ρ X D a oD Q E Rm FX S L ha P;unfold H6;refine bf (pW (hg A s loc objs F ρ ((D,oD)::X) _ _ Rm (FX.cons _) S (L.cons _) ?_) (λx s₁ h₁=>bf (uo (bf (wpAny_of_eq (hs x) (bf (kW h₁)))))) λZ Z h=>h);unfold RX at P;cases hr:g loc objs with
 |stuck=>rw[hr]at P;exact P.elim
 |exc x o=>rw[hr]at P;exact P.elim
 |ok ip o=>
  rw[hr]at P;intro it cz F' rJ ρ' h' tk J f1 p1 pr S1 I j;have sF:jF F rJ:=λb ob q=>(congrFun pr.fst b).trans (f1.1 b ob q);have loop:codeAny (model PR G.w) A (.compLoop (.ListComp elt [⟨tg,iter,ifs,0⟩,⟨n9,cE,gW,0⟩] scope pos) 1 it (.ref D) cx.en) (λr s'=>r= .ok .next/\Q () s') {s with heap:=h',toks:=tk}:=
   tN (Ol elt tg iter n9 cE ifs gW scope pos it D cx.en) rfl rfl Rm ok (λr s=>r.bE s.1) ht hi (zX hf) I S1 (L.bE sF p1) FX j (ha.bE sF) (C:=gZ G ah cx (EE G) F ρ X D s Q) id P
    λal loc' oA P cK bC qC h₂ t₂ l_ f2 p2 x2 S5 L5 r5=>cA (C:=gZ G ah cx (EE G) F ρ X D s Q) id P λo' hu P=>by
     obtain⟨eX,f4,e4,S6⟩:=rP pr f2 p2 S5 hu;have s4:jF cK eX:=λa ob q=>(congrFun e4 a).trans q;exact⟨rfl,P eX bC qC h₂ t₂ l_ (f1.trans f4) (p1.trans p2) x2 S6 (L5.bE s4 (fc _)) (r5.bE s4)⟩
  refine bf (wpAny_runOwn (codeAny_mono (OE loop (I.self S1 j loop)) (λr s₁ h₁=> ?_)) ?_)
  ·obtain⟨rfl,hQ⟩:=h₁;exact dz hQ
  ·simp
end
noncomputable def kQ{G:Gd}{ah:Heap}(Fa:aP G ah)(N:Nat)(v:Value)(g:List V->az->aR V):Prop:=∀(A:Around)(s:Shared)(objs:az)(F:FZ)(ρ:List Addr)(X:List (Addr×Obj))(Q:Value->Shared->Prop)(E:Value->Shared->Prop)(args:List V)(us:List Value),
 c8 A N->iO A X->SR G ah F ρ objs X s.heap->j_ G F ρ args us->aS Fa (WR G) A F ρ X s Q E (g args objs)->wpAny (model PR G.w) A (call v us) Q E s
noncomputable def Fo.val:Fo->V
 | .ret v=>v
 | .next _=> .d .none
noncomputable def iP(keep:Bool)(n:Nat)(v:V)(o:az):aR V:=if keep=true then .ok v o else(rC v o).bind λd o=> .ok (.d d) (o.take n)
noncomputable def XH(keep:Bool)(n:Nat)(r:aR Fo):aR V:=match r with
 | .ok r o=>iP keep n r.val o
 | .exc x o=> .exc x (o.take n)
 | .stuck=> .stuck
noncomputable def bI(k n:Nat)(fW:List D)(f:DS)(keep:Bool)(args:List V)(o:az):aR V:=
 bz (decide (args.length+fW.length=k)) (XH keep o.length (f ((args++fW.map V.d).map some++List.replicate (n - k) none) o))
noncomputable abbrev PY(scope:Scope)(qual:Str)(L a:Addr)(cd:Value)(vis:Nat->Option Str):Cx:=
 ⟨newEnv scope L mainGlobals (cellsFrom (L+1) scope.names []) (qual++".<locals>.") (some a) cd none builtinsNs,vis,L::(cellsFrom (L+1) scope.names []).map (λZ=>Z.2)⟩
structure Vu(scope:Scope)(ps:List Str)(vis:Nat->Option Str):Prop where
 kind:scope.kind= .function
 gen:scope.isGenerator=false
 co:scope.isCoroutine=false
 Yi:((cellsFrom 0 scope.names []).map (λZ=>Z.1)).Nodup
 WO:ps.Nodup
 pk:∀x ∈ ps,scope.names.lookup x=some .local\/(scope.names.lookup x=some .cell/\((cellsFrom 0 scope.names []).lookup x).isSome=true)
 pv:∀i x,i < ps.length->vis i=some x->ps[i]? =some x
 ck:∀x,scope.names.lookup x=some .cell->((cellsFrom 0 scope.names []).lookup x).isSome=true
 inj:∀i j x,vis i=some x->vis j=some x->i=j
 names:∀i x,vis i=some x->(x==("__debug__":Str))=false/\(x==("__classdict__":Str))=false
theorem zM{B:List (Str×Value)->(Str->Option Value)->Str->Option Value}[DecidablePred c](h0:∀m,B [] m=m)(h1:∀n v r m,B ((n,v)::r) m=B r (if c n then λy=>if y=n then some v else m y else m))(hc:c x):
  ∀{ps:List Str}{us:List Value}{m:Str->Option Value}{i:Nat},ps.Nodup->ps[i]? =some x->us[i]? =some v->B (ps.zip us) m x=some v:=by
 have keep:∀(l:List (Str×Value))(m:Str->Option Value),(∀y ∈ l,y.1≠x)->m x=some v->B l m x=some v:=by
  intro l
  induction l with
  |nil=>intro m _ h;rw[h0];exact h
  |cons y l ih=>
   intro m hn h;rw[h1];refine ih _ (λz hz=>hn z (.tail _ hz)) ?_;split
   ·exact(aZ (Ne.symm (hn y (.head _)))).trans h
   ·exact h
 intro ps
 induction ps with
 |nil=>intro us m i _ h;cases h
 |cons p ps ih=>
  intro us m i nd hp hu;obtain⟨nd1,KD⟩:=fU.mp nd;rcases us with _ |⟨u,us⟩
  ·cases hu
  show B ((p,u)::ps.zip us) m x=_;rw[h1];cases i with
  |zero=>cases hp;cases hu;exact keep _ _ (λy hy q=>nd1 (q▸(List.of_mem_zip hy).1)) (by rw[bw hc];exact bw rfl)
  |succ i=>exact ih KD hp hu
theorem Eo{kindOf:Str->Option NameKind}(hk:kindOf x=some .local){ps:List Str}{i:Nat}:ps.Nodup->ps[i]? =some x->us[i]? =some v->bindL kindOf (ps.zip us) m x=some v:=
 zM (B:=bindL kindOf) (c:=λn=>kindOf n=some .local) (λZ=>rfl) (λZ Z Z Z=>rfl) hk
theorem Ep{kindOf:Str->Option NameKind}(hk:kindOf x=some .cell){ps:List Str}{i:Nat}:ps.Nodup->ps[i]? =some x->us[i]? =some v->bindC kindOf (ps.zip us) m x=some v:=
 zM (B:=bindC kindOf) (c:=λn=>¬kindOf n=some .local) (λZ=>rfl) (λn v r m=>congrArg (bindC kindOf r) (ite_not ..).symm) (by rw[hk];exact λq=>by cases q)
theorem kJ{cs cs':List (Str×Addr)}(e:cs.map (λZ=>Z.1)=cs'.map (λZ=>Z.1))(h:(cs.lookup x).isSome=true):(cs'.lookup x).isSome=true:=by
 obtain⟨c,hc⟩:=kq.mp h;cases q:cs'.lookup x with
 |some _=>rfl
 |none=>
  have hm:x ∈ cs'.map (λZ=>Z.1):=e▸cX.mpr ⟨_,bX hc,rfl⟩;clear hc h;obtain⟨p,hp,rfl⟩:=mM hm;exact absurd (List.lookup_eq_none_iff.mp q p hp) (by simp)
section
variable{G:Gd}{ah:Heap}{Fa:aP G ah}{N:Nat}
theorem j_.get:∀{l:List V}{vs:List Value}{i:Nat}{d:V},j_ G F ρ l vs->l[i]? =some d->∃v,vs[i]? =some v/\WR G F ρ d v
 | [],_,_,_,_,hi=>by cases hi
 |_::_,_,0,_,r,hi=>by cases hi;exact r.rec λu us e a b=>⟨u,by rw[e];rfl,a⟩
 |_::_,_,i+1,_,r,hi=>r.rec λu us e a b=>by rw[e];exact j_.get (i:=i) b hi
theorem j_.append(h':j_ G F ρ l' vs'):∀{l:List V}{vs:List Value},j_ G F ρ l vs->j_ G F ρ (l++l') (vs++vs')
 | [],_,h=>by cases h;exact h'
 |_::_,_,h=>h.rec λu us e a b=>⟨u,us++vs',by rw[e];rfl,a,j_.append h' b⟩
theorem s7(lt:∀a,sz<=a->F.1 a=none)(rl:∀a,sz<=a->Af ρ objs a):
  ∀(cs:List (Str×Addr))(X:List (Addr×Obj)),SR G ah F ρ objs X h->cs.Pairwise (λx y=>x.2≠y.2)->(∀p ∈ cs,sz<=p.2/\(∀q ∈ X,q.1≠p.2)/\∃v,h.IsCell p.2 v)->
   ∃Xc,Xc.map (λZ=>Z.1)=cs.map (λZ=>Z.2)/\SR G ah F ρ objs (Xc++X) h/\∀p ∈ Xc,h.get? p.1=some p.2/\∃v,p.2.data= .cell v
 | [],X,S,_,_=>⟨[],rfl,S,λp hp=>nomatch hp⟩
 |(n,c)::cs,X,S,pw,hc=>by
  refine cps λPP kk=> ?_;obtain⟨p1,p2⟩:=List.pairwise_cons.mp pw;obtain⟨Xc,e,S',hv⟩:=s7 lt rl cs X S p2 λp hp=>hc p (.tail _ hp);obtain⟨g1,g2,v,o,g3,g4⟩:=hc (n,c) (.head _);refine kk ?_;clear kk;refine⟨(c,o)::Xc,congrArg (λZ=>c::Z) e,S'.hold g3 (lt c g1) (rl c g1) λp hp q=> ?_,λp hp=> ?_⟩
  ·rcases gU.mp hp with hp |hp
   ·obtain⟨r,hr,e'⟩:=mM (e▸jg hp);exact p1 r hr (q.symm.trans e'.symm)
   ·exact g2 p hp q
  ·rcases cN.mp hp with rfl |hp
   ·exact⟨g3,v,g4⟩
   ·exact hv p hp
theorem SR.yx(S:SR G ah F ρ objs X h)(p:ρ <+:ρ'):ρ'.take objs.length=ρ:=by
 obtain⟨t,rfl⟩:=p;rw[<-S.len,List.take_left]
theorem SR.xr(S:SR G ah F ρ objs X h)(ha:h.objs.size<=a):F.1 a=none:=by
 cases e:F.1 a with
 |none=>rfl
 |some o=>exact absurd (fL (S.stays _ _ e)) (pX.mpr ha)
end
section
variable{G:Gd}{ah:Heap}{Fa:aP G ah}{N:Nat}
inductive Mn(G:Gd)(ah:Heap)(F:FZ)(ρ:List Addr)(objs:az)(X:List (Addr×Obj))(h:Heap)(L:Addr)(cs:List (Str×Addr))(m cm:Str->Option Value):Prop
 |mk (Xc:List (Addr×Obj)) (oL:Obj) (es:Array DictEntry) (ep:Nat) (ec:Xc.map (λZ=>Z.1)=cs.map (λZ=>Z.2)) (S:SR G ah F ρ objs ((L,pq oL)::(Xc++X)) h) (d:oL.data= .dict es ep) (sk:StrKeys es) (ns:∀y,nsFind es y=m y)
   (hc:∀y c,cs.lookup y=some c->∃o,(c,o) ∈ Xc/\o.data= .cell (cm y)) (b:nO (L,pq oL)=true)
theorem SR.enter(S:SR G ah F ρ objs X s.heap)(x:InCallC s s.heap.objs.size m cs cm {s with heap:=h₁,toks:=tk})(Yi:(cs.map (λZ=>Z.1)).Nodup):
  Mn G ah F ρ objs X h₁ s.heap.objs.size cs m cm:=by
 have S1:SR G ah F ρ objs X h₁:=S.turn x.toInCall.keep;refine cps λPP kk=> ?_;obtain⟨Xc,ec,S2,hcv⟩:=s7 (sz:=s.heap.objs.size) (λa h=>S.xr h) (λa h=>S.Eg h) cs X S1 x.apart λp hp=>by
  have ab:=jz (x.above p.1 p.2 hp);exact⟨ab,S.pH ab,_,x.cell p.1 p.2 (lookup_of_mem_nodup Yi hp)⟩
 obtain⟨oL,es,ep,g1,g2,g3,g4⟩:=x.toInCall.ns;refine kk ?_;clear kk;have MO:∀vs,oL.data≠ .fields vs:=λvs q=>by rw[g2]at q;cases q
 refine⟨Xc,oL,es,ep,ec,S2.CN (.mk g1 MO) S.br (S.Eg (Nat.le_refl _)) λp hp q=> ?_,g2,g3,g4,λy c hy=> ?_,mZ MO⟩
 ·rcases gU.mp hp with hp |hp
  ·obtain⟨r,hr,e'⟩:=mM (ec▸jg hp);exact absurd (e'.trans q) (um (x.above r.1 r.2 hr))
  ·exact S.pH (Nat.le_refl _) p hp q
 ·obtain⟨p,hp,q⟩:=mM (ec▸cX.mpr ⟨(y,c),bX hy,rfl⟩:c ∈ Xc.map (λZ=>Z.1));subst q;obtain⟨a1,v,a2⟩:=hcv p hp;obtain⟨o',m4,m5⟩:=x.cell y p.1 hy;cases a1.symm.trans m4;exact⟨p.2,hp,m5⟩
theorem c8.deep(R:c8 A (N+1)):c8 (A.deeper env) N:=
 ⟨R.1,eG (oV (by rw[Nat.mul_add,show(A.deeper env).depth=A.depth+1 from rfl,oS,ng 1];exact iR (iR (by decide) _) _) _) R.2,
  eG (oV (cS (oV (by simp:(A.deeper env).units<=A.units+3) _) (by rw[Nat.mul_add,Nat.add_assoc,Nat.add_comm 3];exact Nat.add_le_add_left (Nat.add_le_add_left (by decide) _) _)) _) R.3,R.4⟩
theorem iO.deep(h:iO A X)(k:env.scope.kind= .function)(e:env.frame=some L)(b:nO (L,o)=true):iO (A.deeper env) ((L,o)::(Xc++X)):=h.rec λl e0 r=>
 ⟨_,Around.frames_deeper e0,λenv' he=>by
  rcases cN.mp he with rfl |he
  ·exact⟨by rw[k];decide,L,o,e, .head _,b⟩
  ·exact(r env' he).rec λk L o f1 f2 f3=>⟨k,L,o,f1, .tail _ (iF _ f2),f3⟩⟩
theorem SR.away(Yy:SR G ah F ρ objs (Y++X) h)(hW:∀p ∈ X,p.1 ∉ W)(x:XS W (Y++X) c7)(S:SR G ah F' ρ' o c7 h'):SR G ah F' ρ' o X h':=
 S.sub (λp hp=>x.keep p (iF _ hp) (hW p hp)) (nk.mp (fZ▸Yy.nodup)).2.1
theorem PX(S:SR G ah F ρ objs X s.heap)(P:aS Fa (WR G) A F ρ X s Q E (iP keep objs.length v o))
  (f1:Sub F F')(p1:ρ <+:ρ')(S5:SR G ah F' ρ' o X h')(w4:WR G F' ρ' v u):Q u {s with heap:=h',toks:=tk}:=by
 cases keep with
 |true=>exact P u F' ρ' h' tk f1 p1 S5 w4
 |false=>
  have P:aS Fa (WR G) A F ρ X s Q E ((rC v o).bind λd o=> .ok (.d d) (o.take objs.length)):=P;cases hm:rC v o with
  |stuck=>rw[hm]at P;exact P.elim
  |exc x o=>exact absurd hm (pI x o)
  |ok d o'=>
   rw[hm]at P;exact(S5.rC Fa w4 hm).rec λrJ f2 S6 v6=>P u rJ ρ h' tk (f1.trans f2) (fc _) (S.yx p1▸S6.take objs.length) v6
theorem Fl.leave{s:Shared}{E:Value->Shared->Prop}{YO:Value->Shared->Prop}(S:SR G ah F ρ objs X s.heap)(p1:ρ <+:ρ')(X':iO A X)(hf:env.frame=some L)(keep:∀p ∈ X,p ∈ c7)
  (fl:Fl G ah Fa.j4 (A.deeper env) F' ρ' o c7 y e h')(k:∀h₂,Fl G ah Fa.j4 A F' ρ (o.take objs.length) X y e h₂->E e {s with heap:=h₂,toks:=tk}):wpAny (model PR G.w) (A.deeper env) (leaving env e) (λZ s''=>E e s'') YO {s with heap:=h',toks:=tk}:=
 fl.rec λbase l b he e1 nb ff sb Sb vB tr=>X'.rec λl₀ e0 r0=>by
  clear fl;subst he;cases e1.symm.trans (Around.frames_deeper (env:=env) e0);have after:∀a0 h₂,base.LeftW (env::l₀) b (.ref (Fa.j4 y)) a0 h' h₂->E (.ref b) {s with heap:=h₂,toks:=tk}:=λa0 h₂ ⟨q1,q2,q3,q4⟩=>
   k h₂ ⟨base,l₀,b,rfl,e0,nb,q2.2.2,q1,(S.yx p1▸Sb.take objs.length).sub (λp hp=>iE.mpr ⟨keep p (iE.mp hp).1,(iE.mp hp).2⟩) (S.nodup.sublist (rL.map _)),
    λp hp hn=>let⟨nn,sl,g⟩:=vB p (keep p hp) hn;let⟨WG,g'⟩:=q4 _ _ g (A8 hn);⟨nn,WG,g'⟩, .tr a0 q3⟩
  exact tr.rec (λa0 t=>wpAny_leaving_nextW e1 ff hf t sb nb (after a0)) λa0 oe vs t1 t2 t3 t4 t5 t6=>wpAny_leaving_firstW e1 ff hf t1 sb nb t3 t4 t6 λh₂ L=>after a0 h₂ (t2▸L)
theorem QF
  (hfo:ah.get? a=some fo)(hd:fo.data= .func (fnX name qual params body scope [] dV kV doc pm an cdv ct))(hcd:ah.CodeRec cdv qual)(hlim:ah.NoLimit)(ok:Vu scope ps vis)(hdv:∀F,jF (ah.get?,λZ=>none) F->cG G F fW fT)
  (hb:∀(s:Shared)(us:List Value),ah.StaysIn s.heap->us.length+fT.length=ps.length->BindsTo s (fnX name qual params body scope [] dV kV doc pm an cdv ct) ⟨us,[]⟩ (ps.zip (us++fT)))
  (hbody:∀L,oQ (PY scope qual L a cdv vis)->SS Fa N (PY scope qual L a cdv vis) body f):kQ Fa (N+1) (.ref a) (bI ps.length n fW f keep):=by
 refine λA s objs F ρ X Q E args us R X' S W P=> ?_;obtain⟨hlen,P⟩:=P.bz;have hlen:=iD hlen;have D8:=hdv F λb o e=>S.base b o e;have Hv:us.length+fT.length=ps.length:=by rw[W.length,D8.length];exact hlen
 have st:ah.StaysIn s.heap:=λb o e=>S.stays b o (S.base b o e);have D9:A.depth < recursionLimit:=eG (cS (fN _ _) (fN _ _)) R.2;refine wpAny_call (codeAny_call_function D9 (st _ _ hfo) hd ok.co ok.gen rfl (hcd.keeps st) (hb s us st Hv _ _ _ _ ?_));have names0:∀n,(cellsFrom n scope.names []).map (λZ=>Z.1)=(cellsFrom 0 scope.names []).map (λZ=>Z.1):=λn=>cellsFrom_names scope.names _ _ [] [] rfl;refine wpAny_newFunctionEnv_cells ok.kind (λx hx=> ?_) λenv he s' x=> ?_
 ·exact(ok.pk x.1 (List.of_mem_zip hx).1).imp id λ⟨h1,h2⟩=>⟨h1,kJ (names0 _).symm h2⟩
 subst he;refine⟨(hlim.keeps st).keeps x.toInCall.keep,codeAny_func ?_⟩;obtain⟨h₁,tk,rfl,hk₁⟩:=x.done;refine(S.enter x (by have:=ok.Yi;rw[<-names0 (s.heap.objs.size+1)]at this;exact this)).rec λXc oL es ep ec S3 g2 g3 g4 hc Zb=> ?_;have Ku:oQ (PY scope qual s.heap.objs.size a cdv vis):={
  kind:=ok.kind,glob:=rfl,blt:=rfl,names:=ok.names,inj:=ok.inj,
  Il:=λy z c h1 h2=>name_of_addr x.apart (bX h1) (bX h2),
  Em:=λy c h1=>um (x.above y c (bX h1)),
  sub:=λb hb=>hb,KR:= .head _}
 have cellAt:∀y,((cellsFrom 0 scope.names []).lookup y).isSome=true->∃c o,(cellsFrom (s.heap.objs.size+1) scope.names []).lookup y=some c/\(c,o) ∈ Xc/\o.data= .cell _:=λy hy=>
  let⟨c,h⟩:=kq.mp (kJ (names0 (s.heap.objs.size+1)).symm hy);let⟨o,m1,m3⟩:=hc y c h;⟨c,o,h,m1,m3⟩
 have has:Dq (PY scope qual s.heap.objs.size a cdv vis) ((s.heap.objs.size,pq oL)::(Xc++X)):=by
  refine⟨⟨pq oL,es,ep, .head _,g2,g3⟩,λy hy=> ?_,λb hb=> ?_⟩
  ·obtain⟨c,o,h,m1,m3⟩:=cellAt y (ok.ck y hy);exact⟨c,o,_,h, .tail _ (g6 _ m1),m3⟩
  ·rw[qY,fZ,ec];rcases cN.mp hb with q |q
   ·exact q▸ .head _
   ·exact .tail _ (g6 _ q)
 have Wd:j_ G F ρ (args++fW.map V.d) (us++fT):=j_.append D8.ws W;have loc:aW G F ρ (PY scope qual s.heap.objs.size a cdv vis) ((s.heap.objs.size,pq oL)::(Xc++X)) ((args++fW.map V.d).map some++List.replicate (n - ps.length) none):=by
  refine⟨λi y v hv hl=> ?_,has⟩;have hla:((args++fW.map V.d).map some).length=ps.length:=by rw[cO,dJ,cO];exact hlen
  by_cases hi:i < ps.length
  ·rw[yc (by rw[hla];exact hi),gB]at hl;obtain⟨w,hw,e⟩:=mS hl;clear hl;cases e;obtain⟨u,hu,ww⟩:=Wd.get hw;have hp:=ok.pv i y hi hv;refine⟨u, ?_,ww⟩;rcases ok.pk y (vX hp)with hk |⟨hk,hs⟩
   ·exact .loc hk (pq oL) es ep (.head _) g2 g3 ((g4 y).trans (Eo hk ok.WO hp hu))
   ·refine cps λPP kk=> ?_;obtain⟨c,o,h,m1,m3⟩:=cellAt y hs;refine kk ?_;clear kk;exact .cell c o (.inl hk) h (.tail _ (g6 _ m1)) (m3.trans (congrArg Data.cell (Ep hk ok.WO hp hu)))
  ·rw[Az (by rw[hla];exact Nat.le_of_not_lt hi)]at hl;cases(List.mem_replicate.mp (vX hl)).2
 have OZ:∀p ∈ X,p.1 ∉ (PY scope qual s.heap.objs.size a cdv vis).own:=λp hp q=>by
  have:=S.HX p hp;rcases cN.mp q with q |q
  ·rw[q]at this;exact Nat.lt_irrefl _ this
  ·obtain⟨r,hr,e⟩:=mM q;exact Nat.lt_asymm this (e▸x.above r.1 r.2 hr)
 have drop:∀{c7:List (Addr×Obj)}{F:FZ}{ρ:List Addr}{o:az}{h:Heap},XS (PY scope qual s.heap.objs.size a cdv vis).own ((s.heap.objs.size,pq oL)::(Xc++X)) c7->SR G ah F ρ o c7 h->SR G ah F ρ o X h:=λx2 S'=>SR.away (Y:=(s.heap.objs.size,pq oL)::Xc) S3 OZ x2 S';refine hbody s.heap.objs.size Ku _ _ _ objs F ρ _ _ _ R.deep (X'.deep ok.kind rfl Zb) S3 loc ?_;cases hr:f ((args++fW.map V.d).map some++List.replicate (n - ps.length) none) objs with
 |stuck=>rw[hr]at P;exact P.elim
 |ok r o=>
  rw[hr]at P;clear hr OZ loc Wd has cellAt Ku Zb hc g4 g3 g2 S3 ec ep es hk₁ x names0 D9 st Hv D8 hlen W X';cases r with
  |next l=>exact λF' ρ' c7 h' tk f1 p1 x2 S4 L4=>PX (s:=s) S P f1 p1 (drop x2 S4) rfl
  |ret v=>exact λu F' ρ' c7 h' tk f1 p1 x2 S4 w4=>PX (s:=s) S P f1 p1 (drop x2 S4) w4
 |exc y o=>
  rw[hr]at P;intro e F' ρ' c7 h' tk f1 p1 x2 fl;exact fl.leave (s:=s) (E:=E) S p1 X' rfl (λp hp=>x2.keep p (.tail _ (iF _ hp)) (OZ p hp)) λh₂ f=>P e F' ρ h₂ tk f1 (fc _) f
end
section
variable{α β γ δ:Type}{R:α->β->Prop}{R':γ->δ->Prop}{l:List α}{m:List β}
noncomputable def q9(R:α->β->Prop):Option α->Option β->Prop
 |none,v=>v=none
 |some d,v=>∃u,v=some u/\R d u
theorem q9.map(h:q9 R x y)(e:∀a b,R a b->R' (f a) (g b)):q9 R' (x.map f) (y.map g):=by
 cases x with
 |none=>cases h;rfl
 |some a=>obtain⟨u,rfl,r⟩:=h;exact⟨_,rfl,e _ _ r⟩
theorem q9.isSome(h:q9 R x y):y.isSome=x.isSome:=by
 cases x with
 |none=>cases h;rfl
 |some a=>obtain⟨u,rfl,r⟩:=h;rfl
theorem Al.find(h:Al R l m)(e:∀a b,R a b->f a=g b):q9 R (l.find? f) (m.find? g):=by
 induction h with
 |nil=>rfl
 | @cons a b _ _ r _ ih=>
  rw[List.find?_cons,List.find?_cons,e _ _ r];cases g b with
  |true=>exact⟨_,rfl,r⟩
  |false=>exact ih
theorem Al.any(h:Al R l m)(e:∀a b,R a b->f a=g b):m.any g=l.any f:=by
 induction h with
 |nil=>rfl
 |cons r _ ih=>rw[List.any_cons,List.any_cons,e _ _ r,ih]
theorem Al.map(h:Al R l m)(e:∀a b,R a b->R' (f a) (g b)):Al R' (l.map f) (m.map g):=h.rec .nil λr Z ih=> .cons (e _ _ r) ih
theorem Al.filter(h:Al R l m)(e:∀a b,R a b->f a=g b):Al R (l.filter f) (m.filter g):=by
 induction h with
 |nil=>exact .nil
 | @cons a b _ _ r _ ih=>
  rw[List.filter_cons,List.filter_cons,e _ _ r];cases g b with
  |true=>exact .cons r ih
  |false=>exact ih
theorem Al.append(h:Al R l m)(h':Al R l' m'):Al R (l++l') (m++m'):=h.rec h' λr Z ih=> .cons r ih
theorem Al.right(h:Al R l m):∀y ∈ m,∃x ∈ l,R x y:=by
 induction h with
 |nil=>exact λy hy=>nomatch hy
 |cons r _ ih=>
  intro y hy;rcases cN.mp hy with rfl |hy
  ·exact⟨_, .head _,r⟩
  ·obtain⟨x,hx,r⟩:=ih y hy;exact⟨x, .tail _ hx,r⟩
theorem Al.left(h:Al R l m):∀x ∈ l,∃y ∈ m,R x y:=by
 induction h with
 |nil=>exact λy hy=>nomatch hy
 |cons r _ ih=>
  intro y hy;rcases cN.mp hy with rfl |hy
  ·exact⟨_, .head _,r⟩
  ·obtain⟨x,hx,r⟩:=ih y hy;exact⟨x, .tail _ hx,r⟩
end
section
variable{κ:Type}[DecidableEq κ]
noncomputable def aJ(l:List (κ×D))(k:κ):Option D:=(l.find? λp=>decide (p.1=k)).map (λZ=>Z.2)
noncomputable def kH(k:κ)(d:D)(p:κ×D):κ×D:=if p.1=k then(p.1,d)else p
noncomputable def b_(l:List (κ×D))(k:κ)(d:D):List (κ×D):=if(aJ l k).isSome=true then l.map (kH k d)else l++[(k,d)]
noncomputable def Bf(l:List (κ×D))(k:κ):List (κ×D):=l.filter λp=>decide (p.1≠k)
theorem yY(k:κ)(d:D)(p:κ×D):(kH k d p).1=p.1:=by unfold kH;split<;>rfl
theorem jt{k:κ}(nd:(l.map (λZ=>Z.1)).Nodup):((b_ l k d).map (λZ=>Z.1)).Nodup:=by
 unfold b_;split
 ·have e:l.map ((λZ=>Z.1)∘kH k d)=l.map (λZ=>Z.1):=List.map_congr_left λp Z=>yY k d p;rw[dB,e];exact nd
 ·rename_i c;rw[fZ];refine nk.mpr ⟨nd,fU.mpr ⟨λh=>(nomatch h),nh⟩,λa ha b hb e=>c ?_⟩;clear c;cases dQ.mp hb;obtain⟨p,hp,q⟩:=mM ha;unfold aJ;rw[Option.isSome_map,List.find?_isSome];exact⟨p,hp,cM (q.trans e)⟩
theorem Be{k:κ}(nd:(l.map (λZ=>Z.1)).Nodup):((Bf l k).map (λZ=>Z.1)).Nodup:=nd.sublist (rL.map _)
theorem iK{k:κ}:(b_ l k d).length<=l.length+1:=by
 unfold b_;split
 ·rw[cO];exact oR _
 ·rw[dJ];exact Nat.le_refl _
end
noncomputable def keyOf(t:KT)(d:D):Option aG:=match t with
 | .ki=>d.int?.map .int
 | .ks=>d.DJ.map .str
 | .kb=>d.pQ.map .bytes
noncomputable def OY:List D->Option (Int×Int)
 | [a,b]=>a.int?.bind λx=>b.int?.map λy=>(x,y)
 |_=>none
noncomputable def sC(v:V):Option (Int×Int):=(n8 v).bind OY
noncomputable def aH.Za:aH->Option (List ((Int×Int)×D))
 | .bO l=>some l
 |_=>Option.none
noncomputable def tW(o:az)(v:V):Option (List ((Int×Int)×D)):=(Gl o v).bind aH.Za
theorem Ba(e:lk a=lk b):a=b:=by
 obtain⟨e1,e2⟩:=nY e;exact Prod.ext e1 (nY e2).1
section
variable{G:Gd}{ah:Heap}{Fa:aP G ah}{N:Nat}{F:FZ}{ρ:List Addr}{objs:az}{X:List (Addr×Obj)}{h:Heap}{cx:Cx}
theorem yZ(e:keyOf t d=some k)(w:VR G F d u):(cJ G.w t).is k u=true:=by
 cases t with
 |ki=>obtain⟨i,h,rfl⟩:=mS e;cases iB h;obtain⟨t,rfl⟩:=w;exact lQ i
 |ks=>obtain⟨i,h,rfl⟩:=mS e;cases k_ h;obtain⟨t,rfl⟩:=w;exact lQ i
 |kb=>obtain⟨i,h,rfl⟩:=mS e;cases fY h;obtain⟨t,rfl⟩:=w;exact lQ i
noncomputable abbrev Vo(G:Gd)(F:FZ)(p:aG×D)(q:aG×Value):Prop:=q.1=p.1/\VR G F p.2 q.2
theorem KV.al:∀{l:List (aG×D)}{kvs:List (aG×Value)},KV G F l kvs->Al (Vo G F) l kvs
 | [],[],_=> .nil
 | [],_::_,h=>by cases h.1
 |_::_,[],h=>by cases h.1
 |_::_,q::_,h=>by
  obtain⟨e1,e2⟩:=nY h.1;exact h.2.rec λu us e a b=>by
   obtain⟨q1,q2⟩:=nY e;exact .cons ⟨e1,(show u=q.2 from q1.symm)▸a⟩ (KV.al ⟨e2,q2▸b⟩)
theorem Al.kv(h:Al (Vo G F) l kvs):KV G F l kvs:=h.rec ⟨rfl,rfl⟩ λ{a b _ _} r Z ih=>⟨by rw[qY,qY,r.1,ih.1],⟨b.2,_,rfl,r.2,ih.2⟩⟩
theorem KV.get(q:KV G F l kvs)(k:aG):q9 (VR G F) (aJ l k) (valueAt kvs k):=(q.al.find λa b r=>by rw[r.1]).map λZ Z r=>r.2
theorem KV.app(q:KV G F l kvs)(w:VR G F d v):KV G F (b_ l k d) (stored kvs k v):=by
 have e:kvs.any (λkv=>decide (kv.1=k))=(aJ l k).isSome:=by rw[<-(q.get k).isSome,valueAt,Option.isSome_map,List.isSome_find?]
 unfold b_ stored;rw[e];split
 ·exact(q.al.map λa b r=>by
   unfold kH
   by_cases z:a.1=k
   ·rw[bw z,bw (r.1.trans z)];exact⟨r.1,w⟩
   ·rw[aZ z,aZ (λy=>z (r.1.symm.trans y))];exact r).kv
 ·exact(q.al.append (.cons ⟨rfl,w⟩ .nil)).kv
theorem KV.del(k:aG)(q:KV G F l kvs):KV G F (Bf l k) (without kvs k):=(q.al.filter λa b r=>by rw[r.1]).kv
theorem cG.al:∀{l:List D}{vs:List Value},cG G F l vs->Al (VR G F) l vs
 | [],_,h=>by cases h;exact .nil
 |_::_,_,h=>h.rec λu us e a b=>by subst e;exact .cons a (cG.al b)
theorem Al.JM(h:Al (VR G F) l vs):cG G F l vs:=h.rec rfl λr Z ih=>⟨_,_,rfl,r,ih⟩
noncomputable abbrev QS(G:Gd)(F:FZ)(p:(Int×Int)×D)(x:List Int×Addr×Value):Prop:=Mq (x.1=lk p.1) (qG G F p.1 x.2.1) (VR G F p.2 x.2.2)
theorem qG.is(st:∀a o,F.1 a=some o->h.get? a=some o)(x:qG G F k a):(lI G.w).is h (lk k) a:=x.rec λvs ep ha v=>by
 obtain⟨u1,us,e1,⟨t1,q1⟩,u2,us',e2,⟨t2,q2⟩,e3⟩:=v;subst e1 e2 q1 q2 e3;exact⟨_,_,ep,st _ _ ha,rfl,rfl, .cons (lQ _) (.cons (lQ _) .nil)⟩
inductive YF(G:Gd)(F:FZ)(h:Heap)(l:List ((Int×Int)×D))(u:Value):Prop
 |mk (a:Addr) (xs:List (List Int×Addr×Value)) (e:u= .ref a) (n1:(a==sysModules)=false) (d:h.DictOfH (lI G.w) a xs) (p:Al (QS G F) l xs) (nd:(l.map (λZ=>Z.1)).Nodup)
theorem Al.Tu(p:Al (QS G F) l xs):xs.map (λZ=>Z.1)=(l.map (λZ=>Z.1)).map lk:=p.rec rfl λr Z ih=>by rw[qY,qY,qY,r.1,ih]
theorem OR.bO(st:∀a o,F.1 a=some o->h.get? a=some o)(g:h.get? a=some o)(r:OR G F a (.bO l) o):∃xs,h.DictOfH (lI G.w) a xs/\Al (QS G F) l xs/\(l.map (λZ=>Z.1)).Nodup:=r.rec λes ep eo r nd=>r.rec λxs e p=>
  ⟨xs,⟨o,es.toArray,ep,g,eo▸⟨rfl,rfl,rfl⟩,eo▸rfl,e,λx hx=>let⟨_,_,z⟩:=p.right x hx;z.1.symm▸z.2.is st,p.Tu.symm▸nd.map lk λZ Z n e=>n (Ba e)⟩,p,nd⟩
theorem OX{x:aH}(h:x.Za=some l):x= .bO l:=by cases x<;>first |exact congrArg _ (iQ h) |exact aK h
theorem SR.tW(S:SR G ah F ρ objs X h)(Fa:aP G ah){v:V}(w:WR G F ρ v u)(e:tW objs v=some l):YF G F h l u:=by
 obtain⟨x,e1,e2⟩:=bS e;cases OX e2;exact(S.C_ Fa (λq=>aH.noConfusion q) w e1).rec λa o eu g r n=>let⟨xs,d,p,nd⟩:=OR.bO S.stays g r;⟨a,xs,eu,n λZ q=>aH.noConfusion q,d,p,nd⟩
theorem Kl(w:WR G F ρ v u)(e:sC v=some k):∃a,u= .ref a/\qG G F k a:=by
 obtain⟨l,e1,e2⟩:=bS e;rcases l with _ |⟨a,_ |⟨b,_ |_⟩⟩<;>first |exact aK e2 |skip
 obtain⟨x,h1,e2⟩:=bS e2;obtain⟨y,h2,rfl⟩:=mS e2;clear e2;cases iB h1;cases iB h2;exact(w.tup e1).rec λa vs ep e h r=>⟨a,e,vs,ep,h,r⟩
theorem Al.Lg(p:Al (QS G F) l xs)(k:Int×Int):q9 (λd(q:Addr×Value)=>VR G F d q.2) (aJ l k) (atKey xs (lk k)):=(p.find λa b r=>by rw[r.1];exact vS.mpr ⟨congrArg _,Ba⟩).map λZ Z r=>r.3
theorem Al.OG(p:Al (QS G F) l xs)(kc:qG G F k c)(w:VR G F d v):Al (QS G F) (b_ l k d) (storedH xs (lk k) c v):=by
 unfold b_ storedH;rw[(p.Lg k).isSome];split
 ·exact p.map λa b r=>by
   unfold kH putAt
   by_cases z:a.1=k
   ·rw[bw z,bw (r.1.trans (congrArg _ z))];exact⟨r.1,r.2,w⟩
   ·rw[aZ z,aZ (λy=>z (Ba (r.1.symm.trans y)))];exact r
 ·exact p.append (.cons ⟨rfl,kc,w⟩ .nil)
theorem OR.A2(hd:h.DictOf (cJ G.w t) a kvs)(q:KV G F l kvs)(nd:(l.map (λZ=>Z.1)).Nodup):∃o,h.get? a=some o/\OR G F a (.dict t l) o:=by
 refine cps λPP kk=> ?_;obtain⟨⟨c,dd,dt,sl⟩,es,ep,h1,⟨rfl,rfl,rfl⟩,rfl,h4,h5,h6⟩:=hd;refine kk ?_;clear kk;exact⟨_,h1,es.toList,ep,rfl,ue.Gh h5 h4 q,nd⟩
theorem OR.WU(hd:h.DictOfH (lI G.w) a xs)(p:Al (QS G F) l xs)(nd:(l.map (λZ=>Z.1)).Nodup):∃o,h.get? a=some o/\OR G F a (.bO l) o:=by
 refine cps λPP kk=> ?_;obtain⟨⟨c,dd,dt,sl⟩,es,ep,h1,⟨rfl,rfl,rfl⟩,rfl,h4,h5,h6⟩:=hd;refine kk ?_;clear kk;exact⟨_,h1,es.toList,ep,rfl,⟨xs,h4,p⟩,nd⟩
end
noncomputable def tY(d:D):List D->Option Bool
 | []=>some false
 |x::xs=>(jM 25 x d).bind λa=>(tY d xs).map λb=>a||b
theorem tX:∀{l:List D}{r:Bool},tY d l=some r->(∀x ∈ l,∃b,jM 25 x d=some b)/\(r=true↔∃x ∈ l,jM 25 x d=some true)
 | [],r,h=>by cases h;exact⟨λx hx=>(nomatch hx),λq=>(nomatch q),λ⟨x,hx,_⟩=>(nomatch hx)⟩
 |x::l,r,h=>by
  obtain⟨a,h1,h2⟩:=bS h;obtain⟨b,h3,rfl⟩:=mS h2;obtain⟨i1,i2⟩:=tX h3;refine⟨λy hy=> ?_,Bool.or_eq_true_iff.trans ⟨λq=> ?_,λ⟨y,hy,q⟩=> ?_⟩⟩
  ·clear h;rcases cN.mp hy with rfl |hy
   ·exact⟨a,h1⟩
   ·exact i1 y hy
  ·clear h2 h;rcases q with rfl |q
   ·exact⟨x, .head _,h1⟩
   ·obtain⟨y,hy,q⟩:=i2.mp q;exact⟨y, .tail _ hy,q⟩
  ·clear h;rcases cN.mp hy with rfl |hy
   ·exact .inl (iQ (h1.symm.trans q))
   ·exact .inr (i2.mpr ⟨y,hy,q⟩)
noncomputable def WK(d:D):Option (Bool×List D):=match d with
 | .tup l=>some (true,l)
 | .list l=>some (false,l)
 |_=>none
noncomputable def zI(a b:V)(o:az):Option Bool:=match cH o b with
 |some tl=>(kM a).bind λx=>(keyOf tl.1 x).map λk=>(aJ tl.2 k).isSome
 |none=>match tW o b with
  |some l=>(sC a).map λk=>(aJ l k).isSome
  |none=>(kM a).bind λx=>((kM b).bind WK).bind λl=>tY x l.2
noncomputable def uK(a b:V)(o:az):aR V:=bx (zI a b o) λr=>l9 r o
noncomputable def dX(a b:V)(o:az):aR V:=bx (zI a b o) λr=>l9 (!r) o
section
variable{G:Gd}{ah:Heap}{Fa:aP G ah}{N:Nat}{F:FZ}{ρ:List Addr}{objs:az}{X:List (Addr×Obj)}{h:Heap}{cx:Cx}
theorem IC(st:∀a o,F.1 a=some o->s.heap.get? a=some o)(hu:A.units+25 < cLine)(w:VR G F d u)(hv:cG G F l vs)(he:tY d l=some r):
  ∃e:Value->Bool,(∀y ∈ vs.toArray,SeqAt.EqAt A s y u (e y))/\vs.toArray.any e=r:=by
 classical
 obtain⟨s1,s2⟩:=tX he;have al:=hv.al;refine⟨λy=>decide (∃x ∈ l,VR G F x y/\jM 25 x d=some true),λy hy=> ?_, ?_⟩
 ·dsimp only;obtain⟨x,hx,r⟩:=al.right y (Array.mem_def.mp hy)
  by_cases q:∃x ∈ l,VR G F x y/\jM 25 x d=some true
  ·obtain⟨x,_,r,e⟩:=id q;rw[cM q];exact(xx st 25 x d r w e hu).eq
  ·obtain⟨b,e⟩:=s1 x hx;cases b with
   |true=>exact absurd ⟨x,hx,r,e⟩ q
   |false=>rw[fM q];exact(xx st 25 x d r w e hu).eq
 ·rw[List.any_toArray,Bool.eq_iff_iff,List.any_eq_true,s2];refine⟨λ⟨y,_,q⟩=> ?_,λ⟨x,hx,q⟩=> ?_⟩
  ·obtain⟨x,hx,_,q⟩:=iD q;exact⟨x,hx,q⟩
  ·obtain⟨y,hy,r⟩:=al.left x hx;exact⟨y,hy,cM ⟨x,hx,r,q⟩⟩
end
section
variable{G:Gd}{ah:Heap}{Fa:aP G ah}{N:Nat}{F:FZ}{ρ:List Addr}{objs:az}{X:List (Addr×Obj)}{h:Heap}{cx:Cx}
structure Vs(G:Gd)(A:Around)(s:Shared)(u v:Value)(r:Bool):Prop where
 isIn:∀{Q:Value->Shared->Prop}{E:Value->Shared->Prop},(∀tk,Q (.bool r) {s with toks:=tk})->wpAny (model PR G.w) A (compareOp .In u v) Q E s
 not:∀{Q:Value->Shared->Prop}{E:Value->Shared->Prop},(∀tk,Q (.bool (!r)) {s with toks:=tk})->wpAny (model PR G.w) A (compareOp .NotIn u v) Q E s
theorem c8.Cj(R:c8 A N):(lI G.w).room A.in1:=eG (by rw[Around.in1_units];exact iR (by decide) _) R.units
set_option tactic.hygienic true in
theorem HF(Fa:aP G ah)(R:c8 A N)(S:SR G ah F ρ objs X s.heap)(wa:WR G F ρ a u)(wb:WR G F ρ b v)(e:zI a b objs=some r):Vs G A s u v r:=by
 unfold zI at e;split at e
 ·rename_i tl hl;obtain⟨x,hx,e⟩:=bS e;obtain⟨k,hk,rfl⟩:=mS e;cases e_ hx;refine(S.cH Fa wb hl).rec λa kvs ev n1 d1 k1 Z=> ?_;subst ev;rw[<-(k1.get k).isSome];exact⟨λP=>wpAny_in_of (yZ hk wa) n1 d1.mapOf (P _),λP=>wpAny_notIn_of (yZ hk wa) n1 d1.mapOf (P _)⟩
 ·split at e
  ·rename_i l hl;obtain⟨k,hk,rfl⟩:=mS e;obtain⟨c,rfl,hc⟩:=Kl wa hk;refine(S.tW Fa wb hl).rec λa xs ev n1 d1 p Z=> ?_;clear wb;subst ev;rw[<-(p.Lg k).isSome];exact⟨λP=>wpAny_in_heap R.Cj (hc.is S.stays) n1 d1 (P _),λP=>wpAny_notIn_heap R.Cj (hc.is S.stays) n1 d1 (P _)⟩
  ·obtain⟨x,hx,e⟩:=bS e;obtain⟨⟨t,l⟩,hl,e⟩:=bS e;obtain⟨y,hy,hl⟩:=bS hl;cases e_ hx;cases e_ hy;have hu:A.in1.units+25 < cLine:=eG (by rw[Around.in1_units,oS];exact iR (by decide) _) R.units;clear hy;cases y<;>first |exact aK hl |skip
   ·cases hl;refine wb.rec λT vs ep ev hT r1=> ?_;obtain⟨f,f1,rfl⟩:=IC (A:=A.in1) (s:=s) S.stays hu wa r1 e;subst ev;have ht:s.heap.IsTuple T vs.toArray:=⟨_,S.stays _ _ hT,rfl,_,rfl⟩;exact⟨λP=>SeqAt.in_tupleAt f ht f1 (P s.toks),λP=>SeqAt.notIn_tupleAt f ht f1 (P s.toks)⟩
   ·cases hl;refine wb.rec λT vs ep ev hT r1=> ?_;obtain⟨f,f1,rfl⟩:=IC (A:=A.in1) (s:=s) S.stays hu wa r1 e;subst ev;have ht:s.heap.IsList T vs.toArray:=⟨_,S.stays _ _ hT,rfl,_,rfl⟩;exact⟨λP=>SeqAt.in_listAt f ht f1 (P s.toks),λP=>SeqAt.notIn_listAt f ht f1 (P s.toks)⟩
theorem Sd:pT Fa N (compareOp .In) uK:=λZ Z Z Z Z Z Z Z Z Z Z Z R Z S wa wb P=>P.bx λZ hr P=>(HF Fa R S wa wb hr).isIn λZ=>P.done S rfl
theorem Ge:pT Fa N (compareOp .NotIn) dX:=λZ Z Z Z Z Z Z Z Z Z Z Z R Z S wa wb P=>P.bx λZ hr P=>(HF Fa R S wa wb hr).not λZ=>P.done S rfl
theorem pG{n:Nat}(h:n<=1000000):(n:Int) < 2 ^ 63:=by exact Int.lt_of_le_of_lt (pZ.mpr h) (by decide)
theorem AI:YB Fa N:=λA s objs F ρ X Q E a u R X' S w P=>P.alt
 (λb hb P=>by
  obtain⟨d,h1,h2⟩:=bS hb;cases e_ h1;clear h1;cases d<;>first |exact aK h2 |skip
  ·cases h2;cases w;exact truthy_none (P.done' S rfl)
  ·clear hb;cases h2;cases w;exact wpAny_truthy_bool (P.done' S rfl)
  ·clear hb;cases h2;obtain⟨t,rfl⟩:=w;exact truthy_int (P.done' S (Bool.eq_iff_iff.mpr (decide_eq_true_iff.trans bne_iff_ne.symm))))
 λP=>P.bx λl hl P=>(S.bU Fa w hl).rec λa vs ep e g r=>by
  clear w;subst e;refine wpAny_truthy_list (items:=vs.toArray) ⟨_,g,rfl,_,rfl⟩ (pG (by rw[kj,r.length];exact fk P.bz.1)) (P.bz.2.done S (congrArg (λZ=> !Z) ?_));have:=r.length;clear r g hl P;cases vs<;>cases l<;>first |rfl |cases this
noncomputable def zH(f:DE):DE:=λloc o=>(f loc o).bind λv o=>bx (jC v) λi=>pU (-i) o
theorem U5(hf:SE Fa N cx e f):SE Fa N cx (.UnaryOp .USub e pos) (zH f):=
 λA s loc objs F ρ X Q E R X' S L P=>wpAny_UnaryOp (hf A s loc objs F ρ X _ E R X' S L (aS.next P λu a o F' ρ' h' tk f1 p1 S1 w1 P1=>P1.bx λi hi P1=>by
  obtain⟨t,rfl⟩:=w1.int hi;exact neg_int (P1.done S1 ⟨_,rfl⟩)))
noncomputable def tM(f g:DE):DE:=λloc o=>(f loc o).bind λv o=>(DG v o).bind λb o=>if b=true then g loc o else .ok v o
noncomputable def zG(f g:DE):DE:=λloc o=>(f loc o).bind λv o=>(DG v o).bind λb o=>if b=true then .ok v o else g loc o
theorem rR{k:V->Bool->az->aR V}{H:Value->Bool->Shared->Prop}
  (hf:SE Fa N cx x f)(R:c8 A N)(X':iO A X)(S:SR G ah F ρ objs X s.heap)(L:aW G F ρ cx X loc)(P:aS Fa (WR G) A F ρ X s Q E ((f loc objs).bind λv o=>(DG v o).bind (k v)))
  (h:∀v u b o F' ρ' h' tk,Sub F F'->ρ <+:ρ'->SR G ah F' ρ' o X h'->WR G F' ρ' v u->aS Fa (WR G) A F' ρ' X {s with heap:=h',toks:=tk} Q E (k v b o)->H u b {s with heap:=h',toks:=tk}):
  wpAny (model PR G.w) A (eval x cx.en) (λv s₁=>wpAny (model PR G.w) A (truthy v) (H v) E s₁) E s:=
 hf A s loc objs F ρ X _ E R X' S L (aS.next P λu a o F' ρ' h' tk f1 p1 S1 w1 P1=>AI A _ o F' ρ' X _ E a u R X' S1 w1 (aS.next P1 λb b' o₂ cK bC h₂ tk₂ f2 p2 S2 w2 P2=>by
  cases Eq.symm w2;exact h a u b o₂ cK bC h₂ tk₂ (f1.trans f2) (p1.trans p2) S2 (w1.mono f2 p2) P2))
theorem Vb{pos:Pos}(hf:SE Fa N cx x f)(hg:SE Fa N cx y g):SE Fa N cx (.BoolOp .And [x,y] pos) (tM f g):=
 λA s loc objs F ρ X Q E R X' S L P=>wpAny_And2 (rR hf R X' S L P λv u b o F' ρ' h' tk f1 p1 S1 w1 P1=>by
  cases b with
  |true=>exact hg A _ loc o F' ρ' X Q E R X' S1 (L.mono f1 p1) P1
  |false=>exact P1.stay S1 w1)
theorem YA{pos:Pos}(hf:SE Fa N cx x f)(hg:SE Fa N cx y g):SE Fa N cx (.BoolOp .Or [x,y] pos) (zG f g):=
 λA s loc objs F ρ X Q E R X' S L P=>wpAny_Or2 (rR hf R X' S L P λv u b o F' ρ' h' tk f1 p1 S1 w1 P1=>by
  cases b with
  |true=>exact P1.stay S1 w1
  |false=>exact hg A _ loc o F' ρ' X Q E R X' S1 (L.mono f1 p1) P1)
noncomputable abbrev ug:=bL->az->aR (List V)
noncomputable def ak:ug:=λ_ o=> .ok [] o
noncomputable def aa(f:DE)(g:ug):ug:=λloc o=>(f loc o).bind λv o=>(g loc o).bind λvs o=> .ok (v::vs) o
theorem Js:zW Fa N cx [] ak:=λA s loc objs F ρ X Q E pos R X' S L P=>spliced_none (P.done' S rfl)
theorem Ds(hf:SE Fa N cx e f)(hg:zW Fa N cx es g)(he:starEach (e::es) cx.en=(false,eval e cx.en)::starEach es cx.en):zW Fa N cx (e::es) (aa f g):=
 λA s loc objs F ρ X Q E pos R X' S L P=>spliced_more (hf A s loc objs F ρ X _ E R X' S L (aS.next P λu a o F' ρ' h' tk f1 p1 S1 w1 P1=>
  hg A _ loc o F' ρ' X _ E pos R X' S1 (L.mono f1 p1) (aS.next P1 λus vs o₂ cK bC h₂ tk₂ f2 p2 S2 w2 P2=>P2.stay S2 ⟨u,us,rfl,w1.mono f2 p2,w2⟩))) he
noncomputable def Cg(mk:List D->az->aR V)(f:ug):DE:=λloc o=>(f loc o).bind λvs o=>(jD vs o).bind λds o=>bz (c6 ds.length) (mk ds o)
noncomputable def cB(f:ug):DE:=Cg (λds o=> .ok (.d (.tup ds)) o) f
noncomputable def d8(m:Bool)(f:ug):DE:=Cg (λds o=>if m=true then .ok (.h o.length) (o++[.list ds])else .ok (.d (.list ds)) o) f
theorem FN{ob:List Value->Obj}(hf:zW Fa N cx es f)
  (R:c8 A N)(X':iO A X)(S:SR G ah F ρ objs X s.heap)(L:aW G F ρ cx X loc)(P:aS Fa (WR G) A F ρ X s Q E (Cg mk f loc objs))
  (h:∀{ds us o F' ρ' h' tk},SR G ah F' ρ' o X h'->cG G F' ds us->aS Fa (WR G) A F' ρ' X {s with heap:=h',toks:=tk} Q E (mk ds o)->Q (.ref h'.objs.size) {s with heap:=h'.push (ob us),toks:=tk}):
  wpAny (model PR G.w) A (spliced (backTo pos (starEach es cx.en))) (λvs s₁=>vs.length<=sizeLine/\Q (.ref s₁.heap.objs.size) {s₁ with heap:=s₁.heap.push (ob vs)}) E s:=
 hf A s loc objs F ρ X _ E pos R X' S L (aS.next P λus vs o F' ρ' h' tk f1 p1 S1 w1 P1=>P1.jD (s:={s with heap:=h',toks:=tk}) S1 w1 λds o₂ cK f2 S2 v2 P2=>by
  obtain⟨hz,P2⟩:=P2.bz;exact⟨by rw[v2.length];exact dM hz,h S2 v2 P2⟩)
theorem U4(hf:zW Fa N cx es f):SE Fa N cx (.Tuple es k pos) (cB f):=
 λA s loc objs F ρ X Q E R X' S L P=>wpAny_Tuple (FN (ob:=λus=>fO us 0) hf R X' S L P λ{ds us o F' ρ' h' tk} S v P=>aS.A6 (s:={s with heap:=h',toks:=tk}) P S v)
theorem U6(hf:zW Fa N cx es f):SE Fa N cx (.List es pos) (d8 m f):=
 λA s loc objs F ρ X Q E R X' S L P=>wpAny_List (FN (ob:=λus=>dF us 0) hf R X' S L P λ{ds us o F' ρ' h' tk} S v P=>by
  cases m with
  |false=>exact aS.A7 (s:={s with heap:=h',toks:=tk}) P S v
  |true=>exact P _ F' _ _ tk (Sub.refl _) ⟨_,rfl⟩ (S.uU (o:=dF us 0) (x:= .list ds) rfl ⟨us,0,rfl,v⟩) ⟨_,by rw[<-S.len];exact AA,rfl⟩)
noncomputable def sA:List V->Option V
 | [a,b]=>some (.pair a b)
 |_=>none
noncomputable def pK(f:ug):DE:=λloc o=>(f loc o).bind λvs o=>bx (sA vs) λv=> .ok v o
theorem Qx(hf:zW Fa N cx es f):SE Fa N cx (.Tuple es k pos) (pK f):=
 λA s loc objs F ρ X Q E R X' S L P=>wpAny_Tuple (hf A s loc objs F ρ X _ E pos R X' S L (aS.next P λus vs o F' ρ' h' tk f1 p1 S1 w1 P1=>P1.bx λv hv P1=>by
  rcases vs with _ |⟨a,_ |⟨b,_ |_⟩⟩<;>first |exact aK hv |skip
  cases hv;refine w1.rec λu us e wa w1=>w1.rec λv us' e' wb e''=> ?_;clear w1;subst e;subst e';subst e'';have sb:=bM (F:=F') (fO [u,v] 0) S1.br;exact⟨(by decide:2<=sizeLine),aS.newF (s:={s with heap:=h',toks:=tk}) (tk:=tk) P1 S1 rfl ⟨_,u,v,0,rfl,cj _ _ _,wa.mono sb (fc _),wb.mono sb (fc _)⟩⟩))
end
theorem kZ{T id:String}(hT:s.TypeIs o T)
  (hl:typeLookup (.type T) "__getitem__"=pure (some (.builtin id)))(h:wpAny (model prog w) A (getItem o i) Q E s)
  (hs:subscripted slice false o i=operate ops (getItem o i)):wpAny (model prog w) A (subscriptTail value slice o i) Q E s:=by
 unfold subscriptTail;refine bf ?_;rw[getitemInPython_of_ne hT.not_modules];refine bf (wpAny_specialOf hT hl ?_);have iP:wpAny (model prog w) A (subscripted slice false o i) (λr s₃=>wpAny (model prog w) A (letTemporaryGo value o r >>= λZ=>pure r) Q E s₃) E s:=by
  rw[hs];exact wpAny_operating (pW h (λr s₃ h₃=>bf (wpAny_letTemporaryGo (dz h₃))) λZ Z x=>x)
 first
  |exact dz (bf iP)
  |exact bf (dz (bf iP))
  |exact bf iP
noncomputable def idx(n:Nat)(i:Int):Option Nat:=if decide (0<=i/\i < n)=true then some i.toNat else if decide (i < 0/\ -(n:Int)<=i)=true then some (i+n).toNat else none
structure Ji(n:Nat)(i:Int)(j:Nat):Prop where
 lt:j < n
 lo: -(n:Int)<=i
 hi:i < n
 eq:(0<=i/\j=i.toNat)\/(i < 0/\j=(i+n).toNat)
theorem zg(h:idx n i=some j):Ji n i j:=by
 unfold idx at h;split at h
 ·rename_i q;have q:=iD q;cases h;exact⟨by exact(Int.toNat_lt q.1).mpr q.2,by exact Int.le_trans (Int.neg_nonpos_of_nonneg (n6 _)) q.1,q.2, .inl ⟨q.1,rfl⟩⟩
 ·split at h
  ·rename_i q;have q:=iD q;cases h;exact⟨by exact(Int.toNat_lt (YX q.2)).mpr (YW q.1),q.2,by exact Int.lt_of_lt_of_le q.1 (n6 _), .inr ⟨q.1,rfl⟩⟩
  ·cases h
theorem Ji.seq(h:Ji n i j):seqIndex? i n=some j:=by
 obtain⟨z1,z3,z4,z5⟩:=h;unfold seqIndex?;clear z1;rcases z5 with⟨q1,rfl⟩ |⟨q1,rfl⟩
 ·have:¬i < 0:=by exact Int.not_lt.mpr (by assumption)
  simp[this,q1,z4]
 ·have h2:0<=i+(n:Int):=by exact YX z3
  have h3:i+(n:Int) < n:=by exact YW q1
  simp[q1,h2,h3]
theorem HP{n:Nat}(h:n<=1000000)(a: -(n:Int)<=i)(b:i < n): -(2 ^ 63)<=i/\i < 2 ^ 63:=by exact⟨Int.le_trans (Int.le_trans (by decide: -(2 ^ 63:Int)<= -((1000000:Nat):Int)) (Int.neg_le_neg (pZ.mpr h))) a,Int.lt_trans b (pG h)⟩
noncomputable abbrev Cr(o:az)(d:D):aR V:= .ok (.d d) o
noncomputable def Qu(l:List D)(i:Int):Option D:=(idx l.length i).bind λj=>l[j]?
noncomputable def aC(a b:V)(o:az):aR V:=alt (cH o a) (λtl=>bx (((kM b).bind (keyOf tl.1)).bind (aJ tl.2)) (Cr o))<|
 alt (tW o a) (λl=>bx ((sC b).bind (aJ l)) (Cr o))<|bx (jC b) λi=>
 alt (bU o a) (λl=>bz (c6 l.length) (bx (Qu l i) (Cr o)))<|alt (n8 a) (λl=>bz (c6 l.length) (bx (Qu l i) (Cr o)))<|
 bx (q7 a) λl=>bz (decide (0<=i/\i < l.length)&&c6 l.length) (pU (l.getD i.toNat 0).toNat o)
section
variable{G:Gd}{ah:Heap}{Fa:aP G ah}{N:Nat}{F:FZ}{ρ:List Addr}{objs:az}{X:List (Addr×Obj)}{h:Heap}{cx:Cx}
theorem q9.some(h:q9 R x y)(e:x=some d):∃u,y= .some u/\R d u:=by subst e;exact h
theorem K6{value slice:PySem.Expr}(hs:∀o i,∃ops,subscripted slice false o i=operate ops (getItem o i)):pT Fa N (subscriptTail value slice) aC:=λA s objs F ρ X Q E a b u v R X' S wa wb P=>by
 obtain⟨ops,hs⟩:=hs u v;refine P.alt (λtl hl P=> ?_) λP=>P.alt (λl hl P=> ?_) λP=>P.bx λi hi P=> ?_
 ·refine(S.cH Fa wa hl).rec λa kvs ea n1 d1 k1 Z=>P.bx λd Bl P9=> ?_;obtain⟨k,hk0,hd⟩:=bS Bl;obtain⟨x,hx,hk⟩:=bS hk0;clear hk0 Bl P wa;cases e_ hx;obtain⟨v',e,w'⟩:=(k1.get k).some hd;subst ea;exact kZ d1.typeIs PySem.F.slot_dict_getitem.lookup (wpAny_getItem_of (yZ hk wb) d1.mapOf e (aS.done (rel:=WR G) (v:= .d d) P9 S w')) hs
 ·refine(S.tW Fa wa hl).rec λa xs ea n1 d1 p Z=>P.bx λd hd P=> ?_;refine cps λPP kk=> ?_;obtain⟨k,hk,hd⟩:=bS hd;obtain⟨c,rfl,hc⟩:=Kl wb hk;obtain⟨v',e,w'⟩:=(p.Lg k).some hd;refine kk ?_;clear kk;subst ea;exact kZ d1.typeIs PySem.F.slot_dict_getitem.lookup (wpAny_getItem_heap R.Cj (hc.is S.stays) d1 e (aS.done (rel:=WR G) (v:= .d d) P S w')) hs
 ·obtain⟨ti,rfl⟩:=wb.int hi;refine P.alt (λl hl P=> ?_) λP=>P.alt (λl hl P=> ?_) λP=>P.bx λl hl P=> ?_
  ·refine(S.bU Fa wa hl).rec λT vs ep e hT r=> ?_;obtain⟨hz,P⟩:=P.bz;refine P.bx λd hd P=> ?_;obtain⟨j,hj,hd⟩:=bS hd;obtain⟨v',e',w'⟩:=r.get hd;have I:=zg hj;clear hj hd hi hl wb wa X' R;subst e;have hL:s.heap.IsList T vs.toArray:=⟨_,hT,rfl,_,rfl⟩;have fi:=HP (fk hz) I.lo I.hi;refine kZ hL.typeIs PySem.F.slot_list_getitem.lookup ?_ hs;rcases I.eq with⟨q1,rfl⟩ |⟨q1,rfl⟩
   ·exact wpAny_getItem_list hL q1 fi.2 ((Aw ..).trans e') (aS.done' (rel:=WR G) (v:= .d d) P S w')
   ·have hz:vs.toArray.size=l.length:=r.length;exact wpAny_getItem_list_neg hL q1 (by rw[hz];exact I.lo) fi.1 (by rw[hz];exact(Aw ..).trans e') (aS.done' (rel:=WR G) (v:= .d d) P S w')
  ·refine(wa.tup hl).rec λT vs ep e hT r=> ?_;obtain⟨hz,P⟩:=P.bz;refine P.bx λd hd P=> ?_;obtain⟨j,hj,hd⟩:=bS hd;obtain⟨v',e',w'⟩:=r.get hd;have I:=zg hj;clear hj hd hi hl wb wa X' R;subst e;have hL:IsTup s.heap T vs.toArray:=⟨_,S.stays _ _ hT,rfl,_,rfl⟩;have hTy:s.TypeIs (.ref T) "tuple":=⟨_,S.stays _ _ hT,rfl⟩;have fi:=HP (fk hz) I.lo I.hi;exact kZ hTy PySem.F.slot_tuple_getitem.lookup (getItem_tuple hL fi.1 fi.2 (j:=j) (by rw[kj,r.length];exact I.seq) ((Aw ..).trans e') (aS.done' (rel:=WR G) (v:= .d d) P S w')) hs
  ·obtain⟨t,rfl⟩:=wa.EM hl;obtain⟨hz,P⟩:=P.bz;obtain⟨q,hz⟩:=bA hz;have q:=iD q;exact kZ (nV _ _ _) FB.slot_bytes_getitem.lookup (getItem_bytes (cS (fk hz) (by decide)) q.1 q.2 (P.done S ⟨_,rfl⟩)) hs
theorem IT(hf:SE Fa N cx x f)(hg:SE Fa N cx y g)(hs:∀o i,∃ops,subscripted y false o i=operate ops (getItem o i)):SE Fa N cx (.Subscript x y pos) (aB aC f g):=
 λZ Z Z Z Z Z Z Z Z R X' S L P=>Subscript_ (rD hf hg (K6 hs) R X' S L P)
noncomputable abbrev DP:=bL->az->aR (Option Nat)
noncomputable def yF:DP:=λ_ o=> .ok none o
noncomputable def qi(f:DE):DP:=λloc o=>(f loc o).bind λv o=>bx (jC v) λi=>bz (decide (0<=i)) (.ok (some i.toNat) o)
inductive QX(_:FZ)(_:List Addr):Option Nat->Value->Prop
 |none:QX _ _ none .none
 |int (n:Nat) (t:Tok):QX _ _ (some n) (.int n t)
noncomputable def SP(Fa:aP G ah)(N:Nat)(cx:Cx)(e:Option PySem.Expr)(f:DP):Prop:=∀(A:Around)(s:Shared)(loc:bL)(objs:az)(F:FZ)(ρ:List Addr)(X:List (Addr×Obj))(Q:Value->Shared->Prop)(E:Value->Shared->Prop),
 c8 A N->iO A X->SR G ah F ρ objs X s.heap->aW G F ρ cx X loc->aS Fa QX A F ρ X s Q E (f loc objs)->wpAny (model PR G.w) A (evalPart e cx.en) Q E s
theorem QO:SP Fa N cx none yF:=λA s loc objs F ρ X Q E R X' S L P=>dz (P.done' S .none)
theorem QN(hf:SE Fa N cx e f):SP Fa N cx (some e) (qi f):=
 λA s loc objs F ρ X Q E R X' S L P=>hf A s loc objs F ρ X _ E R X' S L (aS.next P λu a o F' ρ' h' tk f1 p1 S1 w1 P1=>P1.bx λi hi P1=>by
  obtain⟨t,rfl⟩:=w1.int hi;obtain⟨hz,P1⟩:=P1.bz;have:QX F' ρ' _ _:=QX.int i.toNat t;rw[Int.toNat_of_nonneg (iD hz)]at this;exact P1.stay S1 this)
noncomputable def cut{α:Type}(l:List α)(lo hi:Option Nat):List α:=(l.drop (min (lo.getD 0) l.length)).take (min (hi.getD l.length) l.length - min (lo.getD 0) l.length)
noncomputable def uL(f:DE)(lo hi:DP):DE:=λloc o=>(f loc o).bind λv o=>(lo loc o).bind λa o=>(hi loc o).bind λb o=>
 alt (q7 v) (λl=>bz (c6 l.length) (.ok (.d (.bytes (cut l a b))) o))<|bx (bU o v) λl=>bz (c6 l.length) (.ok (.d (.list (cut l a b))) o)
theorem QX.part(h:QX F ρ k v):IsPart v (k.map Int.ofNat):=h.rec .none λZ Z=> .int _ _
theorem UE(n a:Nat):max (0:Int) (min (if(a:Int) < 0 then(a:Int)+n else a) n)=((min a n:Nat):Int):=(clipAt_cast n a).symm.trans (congrArg Int.ofNat (clipAt_nat n a))
theorem BD(a b:Option Nat)(n:Nat):sliceBounds (a.map Int.ofNat) (b.map Int.ofNat) none n=(((min (a.getD 0) n:Nat):Int),((min (b.getD n) n:Nat):Int),1):=by
 cases a<;>cases b<;>refine Prod.ext ?_ (Prod.ext ?_ rfl)<;>first |exact UE _ _ |exact congrArg Int.ofNat (Nat.zero_min n).symm |exact congrArg Int.ofNat (Nat.min_self n).symm
theorem cG.drop(r:cG G F l vs):∀k:Nat,cG G F (l.drop k) (vs.drop k):=r.al.rec (λk=>by rw[List.drop_nil,List.drop_nil];rfl) λ{_ _ _ _} a al ih k=>by
 cases k with
 |zero=>exact⟨_,_,rfl,a,al.JM⟩
 |succ k=>exact ih k
theorem cG.take(r:cG G F l vs):∀k:Nat,cG G F (l.take k) (vs.take k):=r.al.rec (λk=>by rw[List.take_nil,List.take_nil];rfl) λ{_ _ _ _} a al ih k=>by
 cases k with
 |zero=>rfl
 |succ k=>exact⟨_,_,rfl,a,ih k⟩
theorem cG.cut(r:cG G F l vs)(a b:Option Nat):cG G F (cut l a b) (slicePick vs.toArray (a.map Int.ofNat) (b.map Int.ofNat) none).toList:=by
 rw[kmk_pick_nat vs.toArray (BD a b vs.toArray.size),kj,r.length];exact(r.drop _).take _
theorem U9{lo hi:Option PySem.Expr}(hf:SE Fa N cx x f)(ha:SP Fa N cx lo a)(hb:SP Fa N cx hi b):SE Fa N cx (.Subscript x (.Slice lo hi none p) pos) (uL f a b):=
 λA s loc objs F ρ X Q E R X' S L P=>Subscript_ (hf A s loc objs F ρ X _ E R X' S L (aS.next P λu v o F' ρ' h' tk f1 p1 S1 w1 P1=>
 wpAny_Slice (ha A _ loc o F' ρ' X _ E R X' S1 (L.mono f1 p1) (aS.next P1 λul kl o₂ cK bC h₂ tk₂ f2 p2 S2 w2 P2=>
 hb A _ loc o₂ cK bC X _ E R X' S2 ((L.mono f1 p1).mono f2 p2) (aS.next P2 λuh kh o₃ eY dS h₃ tk₃ f3 p3 S3 w3 P3=>dz (by
 have w1:=w1.mono (f2.trans f3) (p2.trans p3);have S4:=S3.push {cls:= .type "slice",data:= .fields #[ul,uh, .none]};refine P3.alt (λl hl P=> ?_) λP=>P.bx λl hl P=> ?_
 ·obtain⟨t,rfl⟩:=w1.EM hl;obtain⟨hz,P⟩:=P.bz;refine kZ (ops:=[.ref h₃.objs.size, .bytes l.toArray t]) (nV _ _ _) FB.slot_bytes_getitem.lookup (getItem_meets (nV _ _ _) (by decide) FB.slot_bytes_getitem FB.entry_bytes_getitem (FB.args_bytes_getitem_2 _ _) (KBc.meets_slice2 l.toArray t _ w2.part w3.part)
   ⟨Heap.IsSliceOf.new _ _ _ _,cS (KBc.size_picked_le _ _ _) (dM hz),λt' k=> ?_⟩) rfl
  have e:KBy.picked l.toArray (kl.map Int.ofNat) (kh.map Int.ofNat)=(Mine.cut l kl kh).toArray:=by
   rw[KBc.picked_eq];have c:∀k n:Nat,clipAt n (k:Int)=min k n:=λk n=>clipAt_nat n k;clear hl S4 P3 w3 S3 p3 f3 uh P2 w2 P L hb ha hf;cases kl<;>cases kh<;>simp[Mine.cut,c]
  rw[e];exact P _ eY dS _ k (Sub.refl _) (fc _) S4 ⟨_,rfl⟩
 ·obtain⟨hz,P⟩:=P.bz;refine(S4.bU Fa w1 hl).rec λT vs ep e hT r=> ?_;subst e;have hL:(h₃.push {cls:= .type "slice",data:= .fields #[ul,uh, .none]}).IsList T vs.toArray:=⟨_,hT,rfl,_,rfl⟩;exact kZ (s:={s with heap:=h₃.push {cls:= .type "slice",data:= .fields #[ul,uh, .none]},toks:=tk₃}) (ops:=[.ref h₃.objs.size, .ref T]) (Heap.IsList.typeIs hL) list_getitem_lookup
   (wpAny_getItem_list_slice hL (Heap.IsSliceOf.new ..) w2.part w3.part .none (λq=>by cases q) (P _ _ dS _ tk₃ (bM (dF _ 0) S4.br) (fc _) (S4.oB rfl) ⟨_,_,0,rfl,cj _ _ _,(r.cut kl kh).mono (bM _ S4.br)⟩)
   (by rw[kj,r.length];exact dM hz)) rfl))))))
end
inductive Tg |none |bool |int |str |bytes |tup |list |dict |inst (c:Cl) |bV
inductive TC |bool |int |list |dict |dec |cls (c:Cl)
noncomputable def WA:aH->Option Tg
 | .list _=>some .list
 | .dict _ _=>some .dict
 |_=>Option.none
noncomputable def Wz:D->Option Tg
 | .none=>some .none
 | .bool _=>some .bool
 | .int _=>some .int
 | .str _=>some .str
 | .bytes _=>some .bytes
 | .tup _=>some .tup
 | .inst c _=>some (.inst c)
 |_=>Option.none
noncomputable def uW(o:az)(v:V):Option Tg:=match(Gl o v).bind WA with
 |some t=>some t
 |none=>(kM v).bind Wz
noncomputable def PG:TC->Tg->Bool
 | .bool, .bool=>true
 | .int, .bool=>true
 | .int, .int=>true
 | .list, .list=>true
 | .dict, .dict=>true
 | .cls c, .inst c'=>c=c'
 |_,_=>false
noncomputable def RS(G:Gd):Tg->Value
 | .none=> .type "NoneType"
 | .bool=> .type "bool"
 | .int=> .type "int"
 | .str=> .type "str"
 | .bytes=> .type "bytes"
 | .tup=> .type "tuple"
 | .list=> .type "list"
 | .dict=> .type "dict"
 | .inst c=> .ref (G.pO c)
 | .bV=> .ref G.g_
noncomputable def RQ(G:Gd)(dec:Addr):TC->Value
 | .bool=> .type "bool"
 | .int=> .type "int"
 | .list=> .type "list"
 | .dict=> .type "dict"
 | .dec=> .ref dec
 | .cls c=> .ref (G.pO c)
structure Dp(K:Frag)(D:Addr):Prop where
 k1:plainGet K D "__class__"=true
 k2:hasDictIn K D=true
 k3:findIn K (.ref D) "__class__"=some (some (.builtin "object.__class__"))
 k4:specialIn K (.builtin "object.__class__") "__get__"=some (some (.builtin "getset_descriptor.__get__"))
 k5:takesIn K (.builtin "object.__class__")=some true
 k6:mroIn K D (.type "object")=some true
structure BY(K:Frag)(C:Addr)(x:Str):Prop where
 k1:findIn K (.ref C) "__getattribute__"=some (some (.builtin "object.__getattribute__"))
 k2:hasDictIn K C=true
 k3:∃attr,findIn K (.ref C) x=some attr/\noGet K attr=true
structure jy{G:Gd}{ah:Heap}(Fa:aP G ah)(dec:Addr):Prop where
 PF:∀c t,kitOne Fa.K (RS G t) (RQ G dec c)=some (PG c t)
 inst:∀c,Dp Fa.K (G.pO c)
 attr:∀c,∀x ∈ bJ c,BY Fa.K (G.pO c) x
 FD:∀x ∈ [("table":Str),"trailer"],BY Fa.K G.g_ x
noncomputable def fz(c:TC)(f:DE):DE:=λloc o=>(f loc o).bind λv o=>bx (uW o v) λt=>l9 (PG c t) o
section
variable{G:Gd}{ah:Heap}{Fa:aP G ah}{N:Nat}{F:FZ}{ρ:List Addr}{objs:az}{X:List (Addr×Obj)}{h:Heap}{cx:Cx}{dec:Addr}
theorem SR.vz(S:SR G ah F ρ objs X h)(Fa:aP G ah):Fa.K.In h:=λa o e=>S.stays a o (S.base a o (Fa.vz a o e))
set_option tactic.hygienic true in
theorem PD(C:jy Fa dec)(c:TC)(S:SR G ah F ρ objs X s.heap)(w:WR G F ρ v u)(e:uW objs v=some t)
  (P:∀tk,Q (.bool (PG c t)) {s with toks:=tk}):wpAny (model PR G.w) A (call (.builtin "isinstance") [u,RQ G dec c]) Q E s:=by
 have X:=S.vz Fa;have I:=C.PF c t;unfold uW at e;split at e
 ·rename_i t' ht;cases e;obtain⟨x,h1,h2⟩:=bS ht;refine(S.C_ Fa (λq=>by rw[q]at h2;cases h2) w h1).rec λa o eu g r Z=> ?_;subst eu;clear h1;cases x<;>first |exact aK h2 |skip
  ·cases h2;exact r.rec λvs ep eo Z=>kia_one kitx_list X ⟨o,g,by rw[eo]⟩ I (λx=>by cases x) P
  ·clear ht;cases h2;exact r.rec λvs ep eo Z Z=>kia_one kitx_dict X ⟨o,g,by rw[eo]⟩ I (λx=>by cases x) P
 ·obtain⟨d,h1,h2⟩:=bS e;cases e_ h1;clear h1 e;cases d<;>first |exact aK h2 |cases h2
  ·cases w;exact kia_one kitx_none X trivial I (λx=>by cases x) P
  ·cases w;exact kia_one kitx_bool X trivial I (λx=>by cases x) P
  ·obtain⟨_,rfl⟩:=w;exact kia_one kitx_int X trivial I (λx=>by cases x) P
  ·obtain⟨_,rfl⟩:=w;exact kia_one kitx_str X trivial I (λx=>by cases x) P
  ·obtain⟨_,rfl⟩:=w;exact kia_one kitx_bytes X trivial I (λx=>by cases x) P
  ·exact w.rec λa vs ep eu ha Z=>by subst eu;exact kia_one kitx_tuple X ⟨_,S.stays _ _ ha,rfl⟩ I (λx=>by cases x) P
  ·rename_i c' _ _;exact w.rec λa dx es n eu ha hb Z Z=>by
    clear w;subst eu;have k:=C.inst c';exact kia_one (kitx_own k.k1 k.k2 k.k3 k.k4 k.k5 k.k6) X (⟨S.stays _ _ ha,rfl,rfl,S.stays _ _ hb⟩:InstAt s.heap a (instObj (G.pO c') dx) (G.pO c') (some (dictOf es n))) I (λx=>by cases x) P
theorem U8(C:jy Fa dec)(c:TC)(hg:SG Fa cx fn (.builtin "isinstance"))(hf:SE Fa N cx e f)(hc:SG Fa cx ce (RQ G dec c))
  (he:starEach [e,ce] cx.en=(false,eval e cx.en)::starEach [ce] cx.en)(he2:starEach [ce] cx.en=(false,eval ce cx.en)::starEach [] cx.en)(hp:(backTo pos (starEach [ce] cx.en)).any (λZ=>Z.1)=false)
  (hs:eval (.Call fn [e,ce] [] pos) cx.en=(do callWith pos (<-eval fn cx.en) [] (backTo pos (starEach [e,ce] cx.en)) (backToKw pos (keywordEach [] cx.en)))):SE Fa N cx (.Call fn [e,ce] [] pos) (fz c f):=λA s loc objs F ρ X Q E R X' S L P=>by
 refine Call_ (hg A s F ρ objs X _ E S ?_) hs;have ha':wpAny (model PR G.w) A (spliced (backTo pos (starEach [e,ce] cx.en))) (λus s₁=>Fa.K.In s₁.heap/\wpAny (model PR G.w) A (call (.builtin "isinstance") us) Q E s₁) E s:=
  spliced_more (hf A s loc objs F ρ X _ E R X' S L (aS.next P λu a o F' ρ' h' tk f1 p1 S1 w1 P1=>spliced_more (hc A _ F' ρ' o X _ E S1 (spliced_none ⟨S1.vz Fa,
   P1.bx λt ht P1=>PD C c S1 w1 ht λtk₂=>P1 _ F' ρ' h' tk₂ (Sub.refl _) (fc _) S1 rfl⟩)) he2)) he
 rw[he]at ha'⊢;exact callWith_of (P:=Fa.K.In) (by show((false||(backTo pos (starEach [ce] cx.en)).any (λZ=>Z.1))||false)=false;rw[hp];rfl) (λh X=>⟨.machine, .inr (.inl rfl),Looks.of_pure rfl⟩) (evalArgs_plain ha')
noncomputable def rB:List Str->List D->Str->Option D
 |x::xs,d::ds,y=>if x=y then some d else rB xs ds y
 |_,_,_=>none
noncomputable def M9:V->Option (Cl×List D)
 | .d (.inst c ds)=>some (c,ds)
 |_=>none
noncomputable def AL:V->Option (Nat×V)
 | .bV t r=>some (t,r)
 |_=>none
set_option tactic.hygienic true in
theorem Ho(h:M9 v=some p):v= .d (.inst p.1 p.2):=by
 cases v<;>first |exact aK h |skip
 rename_i x;cases x<;>first |exact aK h |(cases h;rfl)
theorem u5(h:AL v=some p):v= .bV p.1 p.2:=by cases v<;>first |exact aK h |(cases h;rfl)
noncomputable def By(x:Str)(v:V)(o:az):aR V:=alt (M9 v) (λp=>bx (rB (bJ p.1) p.2 x) (Cr o))<|
 bx (AL v) λp=>if x=("table":Str)then .ok (.h p.1) o else if x=("trailer":Str)then .ok p.2 o else .stuck
noncomputable def bq(x:Str)(f:DE):DE:=λloc o=>(f loc o).bind (By x)
theorem jo(hk:e1.key= .str x t):getL y (e1::r)=if x=y then some (some e1.val)else getL y r:=by
 have hi:e1.key.isStr y=decide (x=y):=by rw[hk];exact Bool.eq_iff_iff.mpr (beq_iff_eq.trans decide_eq_true_iff.symm)
 have hr:e1.refKey=false:=by unfold DictEntry.refKey;rw[hk]
 unfold getL;rw[List.find?_cons,hi,List.any_cons,hr,Bool.false_or]
 by_cases q:x=y
 ·rw[cM q,bw q]
 ·rw[fM q,aZ q]
theorem vo:∀{xs:List Str}{es:List DictEntry}{ds:List D}{y:Str}{d:D},dZ G.w xs es->cG G F ds (es.map (λZ=>Z.val))->rB xs ds y=some d->y ∈ xs/\∃v,getL y es=some (some v)/\VR G F d v
 | [],_,ds,_,_,_,_,e=>by cases ds<;>cases e
 |x::xs,_,[],_,_,_,_,e=>by cases e
 |x::xs,_,d'::ds,y,d,hn,hv,e=>by
  refine cps λPP kk=> ?_;obtain⟨e1,r,rfl,⟨t,hk⟩,_,hn⟩:=hn;refine kk ?_;clear kk;refine hv.rec λu us q q2 q3=> ?_;obtain⟨q0,q1⟩:=nY q;rw[jo hk];have e:(if x=y then some d' else rB xs ds y)=some d:=e
  by_cases z:x=y
  ·rw[bw z]at e⊢;cases e;exact⟨z▸ .head _,_,rfl,(show u=e1.val from q0.symm)▸q2⟩
  ·rw[aZ z]at e⊢;obtain⟨m,v⟩:=vo hn ((show us=_ from q1.symm)▸q3) e;exact⟨.tail _ m,v⟩
theorem vG(w:WR G F ρ v u):handedIn u=true:=by
 have ref:∀{a:Addr},u= .ref a->handedIn u=true:=λe=>by rw[e];rfl
 cases v with
 |d x=>
  cases x with
  |none=>cases w;rfl
  |bool=>cases w;rfl
  |int=>obtain⟨_,rfl⟩:=w;rfl
  |str=>obtain⟨_,rfl⟩:=w;rfl
  |bytes=>obtain⟨_,rfl⟩:=w;rfl
  |fn=>cases w;rfl
  |inst=>exact w.rec λZ Z Z Z e Z Z Z Z=>ref e
  |dict=>exact w.rec λZ Z Z e Z Z Z Z=>ref e
  |tup=>exact gy.rec (λZ Z Z e Z Z=>ref e) w
  |list=>exact gy.rec (λZ Z Z e Z Z=>ref e) w
 |h n=>exact w.rec λZ Z e=>ref e
 |bV t r=>exact w.rec λZ Z Z Z Z Z e Z Z Z Z Z Z=>ref e
 |pair a b=>exact w.rec λZ Z Z Z e Z Z Z=>ref e
 |lam a=>exact ref w
theorem LP(C:jy Fa dec)(S:SR G ah F ρ objs X s.heap)(w:WR G F ρ v u)(P:aS Fa (WR G) A F ρ X s Q E (By x v objs)):wpAny (model PR G.w) A (getAttr u x true) Q E s:=P.alt
 (λp hp P=>P.bx λd hd P0=>by
  cases Ho hp;refine w.rec λa dx es n eu ha hb hn hv=> ?_;subst eu;obtain⟨m,v,g,w⟩:=vo hn hv hd;have k:=C.attr p.1 x m;obtain⟨at',k3,k4⟩:=k.k3;have I:InstAt s.heap a (instObj (G.pO p.1) dx) (G.pO p.1) (some (dictOf es n)):=⟨S.stays _ _ ha,rfl,rfl,S.stays _ _ hb⟩;exact get_value (S.vz Fa) I k.k1 (findObj_own k.k2 k3 k4 g) (vG (F:=F) (ρ:=ρ) (v:= .d d) w) (aS.done (rel:=WR G) (v:= .d d) P0 S w))
 λP=>P.bx λp hp P0=>by
  cases u5 hp;refine w.rec λa dx es n tv rv eu ha hb hn he ht wr=> ?_;subst eu;have I:InstAt s.heap a (instObj G.g_ dx) G.g_ (some (dictOf es n)):=⟨S.stays _ _ ha,rfl,rfl,S.stays _ _ hb⟩;refine cps λPP kk=> ?_;clear hb;obtain⟨e1,r1,rfl,⟨t1,hk1⟩,_,e2,r2,rfl,⟨t2,hk2⟩,_,hr⟩:=hn;refine kk ?_;clear kk;cases hr;obtain⟨v1,he⟩:=nY he;obtain⟨v2,_⟩:=nY he;have v1:e1.val=tv:=v1;have v2:e2.val=rv:=v2;have go:∀{v:V}{u:Value},x ∈ [("table":Str),"trailer"]->getL x [e1,e2]=some (some u)->WR G F ρ v u->aS Fa (WR G) A F ρ X s Q E (.ok v objs)->wpAny (model PR G.w) A (getAttr (.ref a) x true) Q E s:=λm g w P=>by
   have k:=C.FD _ m;obtain⟨at',k3,k4⟩:=k.k3;exact get_value (S.vz Fa) I k.k1 (findObj_own k.k2 k3 k4 g) (vG w) (P.done S w)
  have P0:aS Fa (WR G) A F ρ X s Q E (if _ then _ else if _ then _ else _):=P0;split at P0
  ·rename_i q;exact go (v:= .h p.1) (q▸ .head _) (by rw[jo hk1,bw q.symm,v1]) ht P0
  ·split at P0
   ·rename_i n q;exact go (q▸ .tail _ (.head _)) (by rw[jo hk1,aZ (λz=>n z.symm),jo hk2,bw q.symm,v2]) wr P0
   ·exact P0.elim
theorem QD(C:jy Fa dec)(hf:SE Fa N cx e f)(hb:attributeBase e x cx.en (eval e cx.en)=eval e cx.en):SE Fa N cx (.Attribute e x pos) (bq x f):=λA s loc objs F ρ X Q E R X' S L P=>by
 rw[arm_eval_Attribute,hb];exact bf (hf A s loc objs F ρ X _ E R X' S L (aS.next P λu a o F' ρ' h' tk f1 p1 S1 w1 P1=>bf (uo (bf (kW (pW (LP (s:={s with heap:=h',toks:=tk}) C S1 w1 P1) (λr s₂ h₂=>bf (wpAny_letTemporaryGo (dz h₂))) λZ Z x=>x))))))
end
noncomputable def noStar:PySem.Expr->Bool
 | .Starred .. =>false
 |_=>true
theorem gn(h:noStar e=true):starEach (e::es) env=(false,eval e env)::starEach es env:=by
 cases e<;>first |rfl |cases h
theorem rU:∀{es:List PySem.Expr},es.all noStar=true->(backTo pos (starEach es env)).any (λZ=>Z.1)=false
 | [],_=>rfl
 |e::es,h=>by
  obtain⟨h1,h2⟩:=bA ((List.all_cons (l:=es)).symm.trans h);rw[gn h1];exact rU (es:=es) h2
section
variable{G:Gd}{ah:Heap}{Fa:aP G ah}{N M:Nat}{F:FZ}{ρ:List Addr}{objs:az}{X:List (Addr×Obj)}{h:Heap}{cx:Cx}{dec:Addr}
noncomputable def Dl(Fa:aP G ah)(f:Value):Prop:=∀(M:Model)(h:Heap),Fa.K.In h->∃k,(k=Keeper.frame\/k=Keeper.machine\/k=Keeper.boundFrame)/\Looks M h (keeperOf f) k
theorem nQ{id:String}:Dl Fa (.builtin id):=λZ Z Z=>⟨.machine, .inr (.inl rfl),Looks.of_pure rfl⟩
theorem t9{id:String}:Dl Fa (.type id):=λZ Z Z=>⟨.machine, .inr (.inl rfl),Looks.of_pure rfl⟩
theorem qS(hk:keepIn Fa.K f=true):Dl Fa f:=λZ h X=>keeps_K hk h X
theorem kQ.up(h:kQ Fa M v g)(hm:M<=N):kQ Fa N v g:=λA s objs F ρ X Q E args us R=>h A s objs F ρ X Q E args us (R.less hm)
theorem pP(hk:Dl Fa v)(hst:es.all noStar=true)
  (go:wpAny (model PR G.w) A (spliced (backTo pos (starEach es env))) (λus s₁=>Fa.K.In s₁.heap/\wpAny (model PR G.w) A (call v (first++us)) Q E s₁) E s):wpAny (model PR G.w) A (callWith pos' v first (backTo pos (starEach es env)) []) Q E s:=by
 refine callWith_of (P:=Fa.K.In) (by rw[rU hst];rfl) (λh X=>hk _ h X) ?_;cases es with
 |nil=>
  unfold evalArgs;show wpAny _ A (spliced [] >>= _) _ _ s;exact bf (pW go (λvs s' h'=>kW (bf (dz (bf (dz (dz h')))))) λZ Z x=>x)
 |cons e es=>
  obtain⟨h1,_⟩:=bA ((List.all_cons (l:=es)).symm.trans hst);rw[gn h1]at go⊢;exact evalArgs_plain go
theorem xG(hk:Dl Fa v)(hf:kQ Fa N v g)(ha:zW Fa N cx es fs)(hst:es.all noStar=true)
  (R:c8 A N)(X':iO A X)(S:SR G ah F ρ objs X s.heap)(L:aW G F ρ cx X loc)(W:j_ G F ρ selfs first)(P:aS Fa (WR G) A F ρ X s Q E ((fs loc objs).bind λvs o=>g (selfs++vs) o)):wpAny (model PR G.w) A (callWith pos' v first (backTo pos (starEach es cx.en)) []) Q E s:=
 pP hk hst (ha A s loc objs F ρ X _ E pos R X' S L (aS.next P λus vs o F' ρ' h' tk f1 p1 S1 w1 P1=>⟨S1.vz Fa,hf A _ o F' ρ' X Q E _ _ R X' S1 (j_.append w1 (W.mono f1 p1)) P1⟩))
noncomputable def aq(g:List V->az->aR V)(fs:ug):DE:=λloc o=>(fs loc o).bind g
noncomputable abbrev mP(fn:PySem.Expr)(es:List PySem.Expr)(pos:Pos)(env:Env):Prop:=eval (.Call fn es [] pos) env=(do callWith pos (<-eval fn env) [] (backTo pos (starEach es env)) (backToKw pos (keywordEach [] env)))
theorem BP(hg:SG Fa cx fn v)(hk:Dl Fa v)(hf:kQ Fa N v g)(ha:zW Fa N cx es fs)(hst:es.all noStar=true)(hs:mP fn es pos cx.en):SE Fa N cx (.Call fn es [] pos) (aq g fs):=
 λA s loc objs F ρ X Q E R X' S L P=>Call_ (hg A s F ρ objs X _ E S (xG (selfs:=[]) hk hf ha hst R X' S L rfl P)) hs
noncomputable def XD:V->Option Nat
 | .d (.fn j)=>some j
 |_=>none
set_option tactic.hygienic true in
theorem PW(h:XD v=some j):v= .d (.fn j):=by
 cases v<;>first |exact aK h |skip
 rename_i x;cases x<;>first |exact aK h |(cases h;rfl)
noncomputable def xB(ff:DE)(g:Nat->List V->az->aR V)(fs:ug):DE:=λloc o=>(ff loc o).bind λv o=>bx (XD v) λk=>(fs loc o).bind (g k)
theorem LY(hfn:SE Fa N cx fn ff)(hk:∀k,Dl Fa (.ref (G.dH k)))(hf:∀k,kQ Fa N (.ref (G.dH k)) (g k))(ha:zW Fa N cx es fs)(hst:es.all noStar=true)(hs:mP fn es pos cx.en):SE Fa N cx (.Call fn es [] pos) (xB ff g fs):=
 λA s loc objs F ρ X Q E R X' S L P=>Call_ (hfn A s loc objs F ρ X _ E R X' S L (aS.next P λu v o F' ρ' h' tk f1 p1 S1 w1 P1=>P1.bx λk hv P1=>by
  cases PW hv;cases w1;exact xG (selfs:=[]) (hk k) (hf k) ha hst R X' S1 (L.mono f1 p1) rfl P1)) hs
noncomputable def BQ(Fa:aP G ah)(N:Nat)(name:Str)(callee:Value)(sel:V->az->Bool):Prop:=∀(A:Around)(s:Shared)(objs:az)(F:FZ)(ρ:List Addr)(X:List (Addr×Obj))(Q:Value×List Value->Shared->Prop)(E:Value->Shared->Prop)(self:V)(u:Value)(pl:Sem Bool),
 c8 A N->SR G ah F ρ objs X s.heap->WR G F ρ self u->sel self objs=true->(∀tk,Q (callee,[u]) {s with toks:=tk})->wpAny (model PR G.w) A (getMethod u name pl) Q E s
noncomputable def aO(sel:V->az->Bool)(g:List V->az->aR V)(f:DE)(fs:ug):DE:=λloc o=>(f loc o).bind λself o=>bz (sel self o) ((fs loc o).bind λvs o=>g ([self]++vs) o)
theorem Qz(ho:SE Fa N cx ob f)(hm:BQ Fa N name callee sel)(hk:Dl Fa callee)(hf:kQ Fa N callee g)
  (ha:zW Fa N cx es fs)(hst:es.all noStar=true)
  (hs:eval (.Call (.Attribute ob name apos) es [] pos) cx.en=(do
   let ov <-eval ob cx.en
   standAt apos.atName
   let(f,first) <-holding [ov] (getMethod ov name pl)
   callWith pos f first (backTo pos (starEach es cx.en)) [])):SE Fa N cx (.Call (.Attribute ob name apos) es [] pos) (aO sel g f fs):=
 λA s loc objs F ρ X Q E R X' S L P=>MethodCall_ (ho A s loc objs F ρ X _ E R X' S L (aS.next P λu self o F' ρ' h' tk f1 p1 S1 w1 P1=>by
  obtain⟨Xi,P1⟩:=P1.bz;exact hm A _ o F' ρ' X _ E self u pl R S1 w1 Xi λtk₂=>xG (s:={s with heap:=h',toks:=tk₂}) (selfs:=[self]) hk hf ha hst R X' S1 (L.mono f1 p1) ⟨u,[],rfl,w1,rfl⟩ (aS.mono (h:=h') (tk:=tk₂) P1 (Sub.refl _) (fc _)))) hs
structure t8(K:Frag)(C:Addr)(name:Str)(f:Addr):Prop where
 k1:plainGet K C name=true
 k2:findIn K (.ref C) name=some (some (.ref f))
 k3:isFn K (.ref f)=true
noncomputable def aI(v:V)(_:az):Bool:=(AL v).isSome
noncomputable def vD(v:V)(_:az):Bool:=match v with
 | .d (.inst .reference _)=>true
 |_=>false
theorem vH:∀{xs:List Str}{es:List DictEntry}{y:Str},dZ G.w xs es->y ∉ xs->getL y es=some none
 | [],_,_,e,_=>by cases e;rfl
 |x::xs,_,y,hn,hc=>by
  obtain⟨e1,r,rfl,⟨t,hk⟩,_,hn⟩:=hn;rw[jo hk,aZ (λq:x=y=>hc (q▸ .head _))];exact vH hn λq=>hc (.tail _ q)
theorem GC(O:t8 Fa.K C name f)(hn:name ∉ xs)(S:SR G ah F ρ objs X s.heap)(ha:F.1 a=some (instObj C dx))(hb:F.1 dx=some (dictOf es n))(hna:dZ G.w xs es)
  (P:Q (.ref f,[.ref a]) s):wpAny (model PR G.w) A (getMethod (.ref a) name pl) Q E s:=
 method_fn (S.vz Fa) (⟨S.stays _ _ ha,rfl,rfl,S.stays _ _ hb⟩:InstAt s.heap a (instObj C dx) C (some (dictOf es n))) (plainGet_of O.k1).1 (plainGet_of O.k1).2 O.k2 (beq_iff_eq.mp O.k3) (by show(lookIn name (dictOf es n)).map _=_;rw[lookIn_dict,vH hna hn];rfl) P
theorem Mi(O:t8 Fa.K G.g_ name f)(hn:name ∉ [("table":Str),"trailer"]):BQ Fa N name (.ref f) aI:=λA s objs F ρ X Q E self u pl R S w hs P=>by
 obtain⟨p,hp⟩:=kq.mp hs;clear hs;cases u5 hp;exact w.rec λa dx es n tv rv eu ha hb hna Z Z Z=>by subst eu;exact GC O hn S ha hb hna (P s.toks)
theorem Vk(O:t8 Fa.K (G.pO .reference) name f)(hn:name ∉ bJ .reference):BQ Fa N name (.ref f) vD:=λA s objs F ρ X Q E self u pl R S w hs P=>by
 unfold vD at hs;split at hs
 ·exact w.rec λa dx es n eu ha hb hna Z=>by subst eu;exact GC O hn S ha hb hna (P s.toks)
 ·cases hs
end
noncomputable def bB(f:V->az->aR V)(args:List V)(o:az):aR V:=match args with
 | [v]=>f v o
 |_=> .stuck
noncomputable def i7(f:V->V->az->aR V)(args:List V)(o:az):aR V:=match args with
 | [v,v']=>f v v' o
 |_=> .stuck
noncomputable def UT(f:V->V->V->az->aR V)(args:List V)(o:az):aR V:=match args with
 | [v,v',v'']=>f v v' v'' o
 |_=> .stuck
section
variable{G:Gd}{ah:Heap}{Fa:aP G ah}{N M:Nat}{F:FZ}{ρ:List Addr}{objs:az}{X:List (Addr×Obj)}{h:Heap}{cx:Cx}{dec:Addr}
noncomputable def EN(Fa:aP G ah)(N:Nat)(fn:Value)(f:V->az->aR V):Prop:=∀{A:Around}{s:Shared}{objs:az}{F:FZ}{ρ:List Addr}{X:List (Addr×Obj)}{Q:Value->Shared->Prop}{E:Value->Shared->Prop}{v:V}{u:Value},
 c8 A N->iO A X->SR G ah F ρ objs X s.heap->WR G F ρ v u->aS Fa (WR G) A F ρ X s Q E (f v objs)->wpAny (model PR G.w) A (call fn [u]) Q E s
noncomputable def Mb(Fa:aP G ah)(N:Nat)(fn:Value)(f:V->V->az->aR V):Prop:=∀{A:Around}{s:Shared}{objs:az}{F:FZ}{ρ:List Addr}{X:List (Addr×Obj)}{Q:Value->Shared->Prop}{E:Value->Shared->Prop}{v v':V}{u u':Value},
 c8 A N->iO A X->SR G ah F ρ objs X s.heap->WR G F ρ v u->WR G F ρ v' u'->aS Fa (WR G) A F ρ X s Q E (f v v' objs)->wpAny (model PR G.w) A (call fn [u,u']) Q E s
noncomputable def YC(Fa:aP G ah)(N:Nat)(fn:Value)(f:V->V->V->az->aR V):Prop:=∀{A:Around}{s:Shared}{objs:az}{F:FZ}{ρ:List Addr}{X:List (Addr×Obj)}{Q:Value->Shared->Prop}{E:Value->Shared->Prop}{v v' v'':V}{u u' YZ:Value},
 c8 A N->iO A X->SR G ah F ρ objs X s.heap->WR G F ρ v u->WR G F ρ v' u'->WR G F ρ v'' YZ->aS Fa (WR G) A F ρ X s Q E (f v v' v'' objs)->wpAny (model PR G.w) A (call fn [u,u',YZ]) Q E s
theorem EN.fn{fn:Value}(h:EN Fa N fn f):kQ Fa N fn (bB f):=λA s objs F ρ X Q E args us R X' S W P=>by
 rcases args with _ |⟨a,_ |⟨b,args⟩⟩<;>first |exact P.elim |skip
 exact W.rec λu us e w W0=>by subst e;cases W0;exact h R X' S w P
theorem Mb.fn{fn:Value}(h:Mb Fa N fn f):kQ Fa N fn (i7 f):=λA s objs F ρ X Q E args us R X' S W P=>by
 rcases args with _ |⟨a,_ |⟨b,_ |⟨c,args⟩⟩⟩<;>first |exact P.elim |skip
 exact W.rec λu us e w W0=>W0.rec λu' us' e' w' W1=>by subst e;subst e';cases W1;exact h R X' S w w' P
theorem YC.fn{fn:Value}(h:YC Fa N fn f):kQ Fa N fn (UT f):=λA s objs F ρ X Q E args us R X' S W P=>by
 rcases args with _ |⟨a,_ |⟨b,_ |⟨c,_ |⟨d,args⟩⟩⟩⟩<;>first |exact P.elim |skip
 exact W.rec λu us e w W0=>W0.rec λu' us' e' w' W1=>W1.rec λu2 Wq e2 w2 W2=>by subst e;subst e';subst e2;cases W2;exact h R X' S w w' w2 P
theorem kQ.or{p:List V->Bool}(hf:kQ Fa N fn f)(hg:kQ Fa N fn g):kQ Fa N fn (λa o=>if p a=true then f a o else g a o):=λA s objs F ρ X Q E args us R X' S W P=>by
 have P:aS Fa (WR G) A F ρ X s Q E (if p args=true then f args objs else g args objs):=P;split at P
 ·exact hf A s objs F ρ X Q E args us R X' S W P
 ·exact hg A s objs F ρ X Q E args us R X' S W P
noncomputable def Zm(o:az)(v:V):Option Nat:=match(n8 v).map List.length with
 |some n=>some n
 |none=>match(q7 v).map List.length with
  |some n=>some n
  |none=>match(bU o v).map List.length with
   |some n=>some n
   |none=>(cH o v).map λx=>x.2.length
noncomputable def dj(v:V)(o:az):aR V:=alt (n8 v) (λl=>bz (c6 l.length) (pU l.length o))<|alt (q7 v) (λl=>bz (c6 l.length) (pU l.length o))<|alt (bU o v) (λl=>bz (c6 l.length) (pU l.length o))<|bx (cH o v) λx=>bz (c6 x.2.length) (pU x.2.length o)
theorem XG{n:Nat}(h:n<=1000000):(n:Int) < 2 ^ 63:=pG h
theorem Vx:EN Fa N (.builtin "len") dj:=λR X' S w P=>P.alt
 (λl hl P=>(w.tup hl).rec λa vs ep e ha r=>by
  subst e;have hz:=P.bz.1;rw[<-r.length]at hz;exact len_tuple (items:=vs.toArray) ⟨_,S.stays _ _ ha,rfl,_,rfl⟩ (pG (fk hz)) (P.bz.2.done S ⟨_,by rw[<-r.length];rfl⟩)) λP=>P.alt
 (λl hl P=>by
  obtain⟨t,rfl⟩:=w.EM hl;exact call_len_gives (nV _ l.toArray t) FB.slot_bytes_len FB.entry_bytes_len (FB.args_bytes_len_1 _) (gives_bytes_len _ _) (Int.not_lt.mpr (n6 _)) (Int.not_le.mpr (pG (fk P.bz.1))) (P.bz.2.done S ⟨_,rfl⟩)) λP=>P.alt
 (λl hl P=>(S.bU Fa w hl).rec λa vs ep e ha r=>by
  subst e;have hz:=P.bz.1;rw[<-r.length]at hz;exact call_len_list (items:=vs.toArray) ⟨_,ha,rfl,_,rfl⟩ (pG (fk hz)) (P.bz.2.done S ⟨_,by rw[<-r.length];rfl⟩)) λP=>
 P.bx λx hx P=>(S.cH Fa w hx).rec λa kvs e n1 d1 k1 Z=>by
  clear w;subst e;have hz:=P.bz.1;rw[<-k1.length]at hz;exact call_len_dict n1 d1 (pG (fk hz)) (P.bz.2.done S ⟨_,by rw[<-k1.length]⟩)
noncomputable def zx(v:V)(o:az):aR V:=bx (jC v) λi=>pU (if i < 0 then -i else i) o
theorem Vz:EN Fa N (.builtin "abs") zx:=λR X' S w P=>P.bx λi hi P=>by
 obtain⟨t,rfl⟩:=w.int hi;exact call_abs_int λu tk=>P.done S ⟨_,rfl⟩
noncomputable def nu(v:V)(o:az):Bool:=(bU o v).isSome
noncomputable def oZ(v:V)(o:az):Bool:=(cH o v).isSome||(tW o v).isSome
theorem BV{id:String}(slot:Slot "list" name id)(hty:typeOf (.builtin id)=pure (.type "method_descriptor")):BQ Fa N name (.builtin id) nu:=λA s objs F ρ X Q E self u pl R S w hs P=>by
 obtain⟨l,hl⟩:=kq.mp hs;exact(S.bU Fa w hl).rec λa vs ep e ha r=>by
  clear r hl w;subst e;exact getMethod_builtin ⟨_,ha,rfl⟩ PySem.F.plainAttrs_list slot hty (λa e=>by cases e;exact⟨_,ha,rfl⟩) (P s.toks)
theorem I9{id:String}(slot:Slot "dict" name id)(hty:typeOf (.builtin id)=pure (.type "method_descriptor")):BQ Fa N name (.builtin id) oZ:=λA s objs F ρ X Q E self u pl R S w hs P=>by
 have go:∀{a:Addr}{o:Obj},s.heap.get? a=some o->o.ExactDict->u= .ref a->wpAny (model PR G.w) A (getMethod u name pl) Q E s:=λ{a o} ho he e=>by
  subst e;exact getMethod_builtin ⟨_,ho,he.1⟩ PySem.F.plainAttrs_dict slot hty (λa e=>by cases e;exact⟨_,ho,he.2.1⟩) (P s.toks)
 rcases Bool.or_eq_true_iff.mp hs with hs |hs
 ·obtain⟨_,hl⟩:=kq.mp hs;exact(S.cH Fa w hl).rec λa kvs e n1 d1 Z Z=>let⟨_,_,_,h1,h2,_⟩:=d1;go h1 h2 e
 ·obtain⟨l,hl⟩:=kq.mp hs;exact(S.tW Fa w hl).rec λa xs e n1 d1 Z Z=>let⟨_,_,_,h1,h2,_⟩:=d1;go h1 h2 e
noncomputable def Rp(o:az)(v:V):Option (Nat×aH):=match v with
 | .h n=>o[n]?.map λx=>(n,x)
 |_=>none
inductive YK(G:Gd)(F:FZ)(ρ:List Addr)(objs:az)(h:Heap)(n:Nat)(x:aH)(u:Value):Prop
 |mk (a:Addr) (o:Obj) (e:u= .ref a) (hi:objs[n]? =some x) (ha:ρ[n]? =some a) (g:h.get? a=some o) (r:OR G F a x o) (nf:F.1 a=none)
theorem SR.live(S:SR G ah F ρ objs X h)(w:WR G F ρ v u)(hx:p.2≠ .dead)(e:Rp objs v=some p):YK G F ρ objs h p.1 p.2 u:=by
 cases v<;>first |exact aK e |skip
 obtain⟨x,h1,rfl⟩:=mS e;exact w.rec λa ha eu=>let⟨⟨o,g,r⟩,n⟩:=S.addr h1 hx ha;⟨a,o,eu,h1,ha,g,r,n⟩
theorem aS.turned(P:aS Fa (WR G) A F ρ X s Q E (.ok v (objs.set n x')))(S:SR G ah F ρ objs X s.heap)(hi:objs[n]? =some x)(hx:x≠ .dead)(ha:ρ[n]? =some a)
  (hs:Heap.SameBut a s.heap h')(g:h'.get? a=some o')(r:OR G F a x' o')(w:WR G F ρ v u):Q u {s with heap:=h',toks:=tk}:=P u F ρ h' tk (Sub.refl _) (fc _) (S.update hi hx ha hs g r) w
theorem iG(f:Array Value->Array Value)(ha:h.get? a=some (dF vs ep)):∃oG,(h.update a (Obj.mapSeq f)).get? a=some (dF (f vs.toArray).toList oG):=⟨if(f vs.toArray).size==vs.toArray.size then ep else ep+1,PySem.IsL.update ha f⟩
noncomputable def Bo(o:az)(v:V):Option (Nat×List D):=(Rp o v).bind λp=>p.2.yR.map λl=>(p.1,l)
theorem Lc(h:Bo objs v=some q):Rp objs v=some (q.1, .list q.2):=by
 obtain⟨p,h1,h2⟩:=bS h;obtain⟨l,h3,rfl⟩:=mS h2;rw[h1, <-wU h3]
inductive Vn(G:Gd)(F:FZ)(ρ:List Addr)(objs:az)(h:Heap)(n:Nat)(l:List D)(u:Value):Prop
 |mk (a:Addr) (vs:List Value) (ep:Nat) (e:u= .ref a) (hi:objs[n]? =some (.list l)) (ha:ρ[n]? =some a) (g:h.get? a=some (dF vs ep)) (r:cG G F l vs)
theorem kG:(aH.list l)≠ .dead:=λq=>aH.noConfusion q
theorem SR.yT(S:SR G ah F ρ objs X h)(w:WR G F ρ v u)(e:Bo objs v=some q):Vn G F ρ objs h q.1 q.2 u:=
 (S.live (p:=(q.1, .list q.2)) w kG (Lc e)).rec λa o eu hi ha g r Z=>r.rec λvs ep eo r=>⟨a,vs,ep,eu,hi,ha,eo▸g,r⟩
noncomputable def fG(c v:V)(o:az):aR V:=(rC v o).bind λd o=>bx (Bo o c) λp=>bz (c6 p.2.length) (.ok (.d .none) (o.set p.1 (.list (p.2++[d]))))
theorem Jp:Mb Fa N (.builtin "list.append") fG:=λ{A s _ _ ρ X Q E _ _ _ _} R X' S w w' P=>P.rC S w' λd o F' f1 S1 w1 P=>P.bx λp hp P=>(S1.yT (w.mono f1 (fc _)) hp).rec λa vs ep e hi ha g r=>by
 clear w;subst e;refine wpAny_list_append_plain (items:=vs.toArray) ⟨ep,g⟩ (λh' hp hs=> ?_) (by rw[kj,r.length];exact cS (fk P.bz.1) (by decide));obtain⟨oG,hg⟩:=hp;exact aS.turned (tk:=s.toks) P.bz.2 S1 hi kG ha hs hg ⟨vs++[_],oG,by rw[List.push_toArray],cG.append (l':=[d]) ⟨_,[],rfl,w1,rfl⟩ r⟩ rfl
noncomputable def Br(c:V)(o:az):aR V:=bx (Bo o c) λp=>bx p.2.getLast? λd=>bz (c6 p.2.length) (.ok (.d d) (o.set p.1 (.list p.2.dropLast)))
theorem cG.last(r:cG G F l vs)(e:l.getLast?=some d):∃p y,vs=p++[y]/\VR G F d y/\cG G F l.dropLast p:=by
 obtain⟨l',rfl⟩:=List.getLast?_eq_some_iff.mp e;rw[List.dropLast_concat];clear e
 induction l' generalizing vs with
 |nil=>exact r.rec λu us e a b=>⟨[],u,by cases b;exact e,a,rfl⟩
 |cons x l' ih=>exact r.rec λu us e a b=>let⟨p,y,e',w,r'⟩:=ih b;⟨u::p,y,by rw[e,e'];rfl,w,u,p,rfl,a,r'⟩
theorem Vw:EN Fa N (.builtin "list.pop") Br:=λ{A s _ _ _ X Q E _ _} R X' S w P=>P.bx λp hp P=>P.bx λd hd P=>(S.yT w hp).rec λa vs ep e hi ha g r=>by
 subst e;have hz:vs.toArray.size<=sizeLine:=by rw[kj,r.length];exact dM P.bz.1
 refine cps λPP kk=> ?_;obtain⟨p',y,rfl,w,r'⟩:=r.last hd;have hk:(p'++[y]).toArray.size - 1=p'.length:=by rw[kj,dJ];rfl
 obtain⟨oG,hg⟩:=iG (λxs=>xs.eraseIdxIfInBounds ((p'++[y]).toArray.size - 1)) g;refine kk ?_;clear kk;rw[hk,kl_erase,fC]at hg;refine call_meets PySem.F.slot_list_pop ⟨_,g,rfl⟩ PySem.F.entry_list_pop (PySem.F.args_list_pop_1 _) (PySem.MeetsSeq.list_pop_last a _ ep y (by rw[hk,Aw];exact AA) hz) ⟨g, ?_⟩;rw[hk];exact aS.turned (tk:=s.toks) P.bz.2 S hi kG ha (ux ..) hg ⟨p',oG,rfl,r'⟩ w
end
noncomputable def y_(t:KT)(k:V):Option aG:=(kM k).bind (keyOf t)
noncomputable def Uk(v k:V)(o:az):aR V:=bx (cH o v) λtl=>bx (y_ tl.1 k) λk=>Cr o ((aJ tl.2 k).getD .none)
noncomputable def Uj(v k d:V)(o:az):aR V:=bx (kM d) λd=>alt (cH o v) (λtl=>bx (y_ tl.1 k) λk=>Cr o ((aJ tl.2 k).getD d)) (bx (tW o v) λl=>bx (sC k) λk=>Cr o ((aJ l k).getD d))
noncomputable def pF(args:List V)(o:az):aR V:=if decide (args.length=2)=true then i7 Uk args o else UT Uj args o
section
variable{G:Gd}{ah:Heap}{Fa:aP G ah}{N M:Nat}{F:FZ}{ρ:List Addr}{objs:az}{X:List (Addr×Obj)}{h:Heap}{cx:Cx}{dec:Addr}
theorem ry{t:KT}{v:V}{k:aG}{u:Value}(e:y_ t v=some k)(w:WR G F ρ v u):(cJ G.w t).is k u=true:=by
 obtain⟨d,h1,h2⟩:=bS e;cases e_ h1;exact yZ h2 w
theorem q9.getD{R:D->Value->Prop}{x:Option D}{y:Option Value}{d:D}{v:Value}(h:q9 R x y)(w:R d v):R (x.getD d) (y.getD v):=by
 cases x with
 |none=>cases h;exact w
 |some a=>obtain⟨u,rfl,r⟩:=h;exact r
theorem Vy:kQ Fa N (.builtin "dict.get") pF:=kQ.or
 (Mb.fn λR X' S w wk P=>P.bx λtl hl P=>P.bx λk hk P=>(S.cH Fa w hl).rec λa kvs e n1 d1 k1 Z=>by
  subst e;exact call_meetsIn PySem.F.slot_dict_get d1.typeIs PySem.F.entry_dict_get (PySem.F.args_dict_get_2 _ _) (meets_dict_get (cJ G.w tl.1) a (ry hk wk) n1) ⟨_,d1.mapOf,aS.done (rel:=WR G) (v:= .d _) P S ((k1.get k).getD (v:= .none) rfl)⟩)
 (YC.fn λR X' S w wk wd P=>P.bx λd hd P=>by
  have wd:=(congrArg (λv=>WR G _ _ v _) (e_ hd)).mp wd;exact P.alt (λtl hl P=>P.bx λk hk P=>(S.cH Fa w hl).rec λa kvs e n1 d1 k1 Z=>by
   subst e;exact call_meetsIn PySem.F.slot_dict_get d1.typeIs PySem.F.entry_dict_get (PySem.F.args_dict_get_3 _ _ _) (meets_dict_get_default (cJ G.w tl.1) a (ry hk wk) n1 _) ⟨_,d1.mapOf,aS.done (rel:=WR G) (v:= .d _) P S ((k1.get k).getD wd)⟩)
   λP=>P.bx λl hl P=>P.bx λk hk P=>(S.tW Fa w hl).rec λa xs e n1 d1 p Z=>by
   clear w;subst e;obtain⟨c,rfl,hc⟩:=Kl wk hk;exact call_meetsIn PySem.F.slot_dict_get d1.typeIs PySem.F.entry_dict_get (PySem.F.args_dict_get_3 _ _ _) (meetsH_dict_get_default (lI G.w) a c n1 _) ⟨R.Cj,_,_,hc.is S.stays,d1,aS.done (rel:=WR G) (v:= .d _) P S (((p.Lg k).map (R':=VR G _) (f:=id) λZ Z r=>r|>λr=>r).getD wd|>λz=>by rw[Option.map_id]at z;exact z)⟩)
noncomputable def wC:aH->V->D->Option aH
 | .dict t l,k,d=>(y_ t k).map λk=> .dict t (b_ l k d)
 | .bO l,k,d=>(sC k).map λk=> .bO (b_ l k d)
 |_,_,_=>none
noncomputable def rX:aH->Nat
 | .dict _ l=>l.length
 | .bO l=>l.length
 | .list l=>l.length
 |_=>0
structure zY(G:Gd)(A:Around)(s:Shared)(a:Addr)(op:Value->Value->Sem Unit):Prop where
 room:(lI G.w).room A
 dict:∀{t:KT}{kvs:List (aG×Value)}{k:aG}{uk v:Value}{Q:Unit->Shared->Prop}{E:Value->Shared->Prop},(cJ G.w t).is k uk=true->s.heap.DictOf (cJ G.w t) a kvs->(∀h',h'.DictOf (cJ G.w t) a (stored kvs k v)->Heap.SameBut a s.heap h'->Q () {s with heap:=h',toks:=s.toks+1})->kvs.length<=sizeLine->wpAny (model PR G.w) A (op uk v) Q E s
 pd:∀{xs:List (List Int×Addr×Value)}{k:List Int}{c:Addr}{v:Value}{Q:Unit->Shared->Prop}{E:Value->Shared->Prop},(lI G.w).is s.heap k c->s.heap.DictOfH (lI G.w) a xs->(∀h',h'.DictOfH (lI G.w) a (storedH xs k c v)->Heap.SameBut a s.heap h'->Q () {s with heap:=h',toks:=s.toks+(lI G.w).draws k})->xs.length<=sizeLine->wpAny (model PR G.w) A (op (.ref c) v) Q E s
theorem zY.item(hu:A.units+1 < cLine):zY G A s a (setItem (.ref a)):=⟨vU hu,λa b c d=>wpAny_setItem_pairs a b c d,λa b c d=>wpAny_setItem_heap (show A.in1.units < cLine by rw[Around.in1_units];exact hu) a b c d⟩
theorem zY.set(hu:A.units < cLine):zY G A s a (dictSet a):=⟨hu,λa b c d=>wpAny_dictSet_pairs a b c d,λa b c d=>wpAny_dictSet_heap hu a b c d⟩
theorem lP.of{t:KT}{l:List (aG×D)}{a:Addr}{o:Obj}(g:h.get? a=some o)(r:OR G F a (.dict t l) o):∃kvs,h.DictOf (cJ G.w t) a kvs/\KV G F l kvs/\(l.map (λZ=>Z.1)).Nodup:=
 r.rec λes ep eo r nd=>r.pairs.rec λkvs p q z=>⟨kvs,⟨o,es.toArray,ep,g,eo▸⟨rfl,rfl,rfl⟩,eo▸rfl,λe he=>z e (Array.mem_def.mp he),p,q.1▸nd⟩,q,nd⟩
set_option tactic.hygienic true in
theorem AU(O:zY G A s a op)(st:∀a o,F.1 a=some o->s.heap.get? a=some o)(g:s.heap.get? a=some o)(r:OR G F a x o)(wk:WR G F ρ k uk)(wd:VR G F d ud)
  (hz:c6 (rX x)=true)(e:wC x k d=some x')(hQ:∀h' o' tk,h'.get? a=some o'->OR G F a x' o'->Heap.SameBut a s.heap h'->Q () {s with heap:=h',toks:=tk}):wpAny (model PR G.w) A (op uk ud) Q E s:=by
 cases x<;>first |exact aK e |skip
 ·rename_i t l;obtain⟨kk,hk,rfl⟩:=mS e;obtain⟨kvs,d1,q,nd⟩:=lP.of g r;refine O.dict (ry hk wk) d1 (λh' hd hs=> ?_) (by rw[q.length];exact dM hz);obtain⟨o',g',r'⟩:=OR.A2 hd (q.app wd) (jt nd);exact hQ h' o' _ g' r' hs
 ·rename_i l;obtain⟨kk,hk,rfl⟩:=mS e;obtain⟨xs,d1,p,nd⟩:=OR.bO st g r;obtain⟨c,rfl,hc⟩:=Kl wk hk;refine O.pd (hc.is st) d1 (λh' hd hs=> ?_) (by rw[p.length];exact dM hz);obtain⟨o',g',r'⟩:=OR.WU hd (p.OG hc wd) (jt nd);exact hQ h' o' _ g' r' hs
theorem uC(ho:s.heap.get? l=some (dF vs ep))(h0:0<=i)(hn:i.toNat < vs.length)(hfit:i < 2 ^ 63)
  (hQ:∀h' oG,h'.get? l=some (dF (vs.set i.toNat v) oG)->Heap.SameBut l s.heap h'->Q () {s with heap:=h'}):wpAny (model PR G.w) A (setItem (.ref l) (.int i t) v) Q E s:=by
 have hl:s.heap.IsList l vs.toArray:=⟨_,ho,rfl,_,rfl⟩;have hd:(dF vs ep).data= .seq vs.toArray ep:=rfl;unfold setItem
 try with_reducible refine kW ?_
 first |refine bf (dz ?_) |skip
 refine bf (wpAny_sequenceKey hl.typeIs (by decide) ?_);refine bf (wpAny_callSpecial?_slot (name:=Str.ofString "__setitem__") hl.typeIs slot_list_setitem
  (yb slot_list_setitem hl.typeIs entry_list_setitem ?_ (args_list_setitem _ _ _)))
 show wpAny _ _ (Builtin.List.listSubscript? (.int i t) >>= _) _ _ s;refine bf (wpAny_listSubscript_int (fitsIndex_of h0 hfit) ?_);clear hfit;obtain⟨k,rfl⟩:=Int.eq_ofNat_of_zero_le h0;have hk:k < vs.length:=hn;have hx':vs.toArray[k]? =some vs[k]:=by rw[Aw,je hk]
 show wpAny _ _ ((seqItemAt l k >>= λr=>pure (r.map (λZ=>(k,Z)))) >>= _) _ _ s;refine bf (bf (wpAny_seqItemAt ho hd (dz ?_)));rw[hx'];show wpAny _ _ (setSeqItemAt l k v >>= _) _ _ s;obtain⟨oG,hg⟩:=iG (λxs=>xs.setIfInBounds k v) ho;rw[List.setIfInBounds_toArray]at hg;refine bf (wpAny_setSeqItemAt ho hd ?_)
 first
  |exact bf (dz (dz ⟨.none,rfl,dz (hQ _ oG hg (ux ..))⟩))
  |exact dz ⟨.none,rfl,dz (hQ _ oG hg (ux ..))⟩
theorem cG.set(r:cG G F l vs)(w:VR G F d v):∀k:Nat,cG G F (l.set k d) (vs.set k v):=r.al.rec (λZ=>rfl) λ{_ _ _ _} a al ih k=>by
 cases k with
 |zero=>exact⟨_,_,rfl,w,al.JM⟩
 |succ k=>exact⟨_,_,rfl,a,ih k⟩
noncomputable def OU(x:aH)(k:V)(d:D):Option aH:=x.yR.bind λl=>(jC k).bind λi=>if decide (0<=i/\i.toNat < l.length)=true then some (.list (l.set i.toNat d))else none
noncomputable def lH(c k:V)(d:D)(o:az):aR Unit:=bx (Rp o c) λp=>bz (c6 (rX p.2)) (alt (wC p.2 k d) (λx=> .ok () (o.set p.1 x)) (bx (OU p.2 k d) λx=> .ok () (o.set p.1 x)))
noncomputable def iu(f g e:DE):DS:=λloc o=>(f loc o).bind λv o=>(g loc o).bind λc o=>(e loc o).bind λk o=>(rC v o).bind λd o=>(lH c k d o).bind λ_ o=> .ok (.next loc) o
theorem u_(e:wC x k d=some x'):x≠ .dead:=λq=>by rw[q]at e;cases e
theorem FG(Fa:aP G ah){C:aR Unit->Prop}(h0:¬C .stuck)(R:c8 A N)(S:SR G ah F ρ objs X s.heap)(wc:WR G F ρ c uc)(wk:WR G F ρ k uk)(wd:VR G F d ud)
  (P:C (lH c k d objs))(hQ:∀o h' tk,C (.ok () o)->SR G ah F ρ o X h'->Q () {s with heap:=h',toks:=tk}):wpAny (model PR G.w) A (setItem uc uk ud) Q E s:=by
 refine cA (C:=C) h0 P λp hp P=> ?_;obtain⟨hz,P⟩:=ju h0 P;cases ha:wC p.2 k d with
 |some x=>
  unfold alt at P;rw[ha]at P;exact(S.live wc (u_ ha) hp).rec λa o e hi hr g r Z=>by
   subst e;exact AU (.item (eG (iR (by decide) _) R.units)) S.stays g r wk wd hz ha λh' o' tk g' r' hs=>hQ _ h' tk P (S.update hi (u_ ha) hr hs g' r')
 |none=>
  unfold alt at P;rw[ha]at P;refine cA (C:=C) h0 P λx hx P=> ?_;obtain⟨l,h1,h2⟩:=bS hx;obtain⟨i,h3,h4⟩:=bS h2;have lv:p.2≠ .dead:=λq=>by rw[q]at h1;cases h1
  refine(S.live wc lv hp).rec λa o e hi hr g r Z=> ?_;subst e;have ep:=wU h1;rw[ep]at r;obtain⟨t,rfl⟩:=wk.int h3;refine r.rec λvs n eo r9=> ?_;clear r;subst eo;split at h4
  ·rename_i hc;clear h2 hx;cases h4;have hc:=iD hc;have hz:l.length<=1000000:=by rw[ep]at hz;exact fk hz
   exact uC g hc.1 (by rw[r9.length];exact hc.2) (Int.lt_of_le_of_lt (Int.self_le_toNat i) (pG (cS (jz hc.2) hz))) λh' oG hg hs=>hQ _ h' s.toks P (S.update hi lv hr hs hg ⟨_,oG,rfl,r9.set wd i.toNat⟩)
  ·cases h4
theorem bY.rC{G':Prop}(S:SR G ah F ρ objs X s.heap)(hw:WR G F ρ v u)(p:bY Fa cx A F ρ X s Q E ((Mine.rC v objs).bind f))
  (k:∀d o F',Sub F F'->SR G ah F' ρ o X s.heap->VR G F' d u->bY Fa cx A F' ρ X s Q E (f d o)->G'):G':=by
 cases e:Mine.rC v objs with
 |stuck=>rw[e]at p;exact p.elim
 |exc x o=>exact absurd e (pI x o)
 |ok d o=>rw[e]at p;exact(S.rC Fa hw e).rec λF' f S w=>k d o F' f S w (bY.mono p f (fc ρ) (XS.refl _ _))
theorem QG{p pos:Pos}(hf:SE Fa N cx v f)(hg:SE Fa N cx c g)(he:SE Fa N cx k e)(hs:swapsWith v (some (.Subscript c k p)) pos.line cx.en=pure false):S1 Fa N cx (.Assign [.Subscript c k p] v pos) (iu f g e):=
 λA s loc objs F ρ X Q E R X' S L P=>wpAny_Assign_Subscript (hf A s loc objs F ρ X _ E R X' S L (bY.next P λu a o F' ρ' h' tk f1 p1 S1 w1 P1=>
 hg A _ loc o F' ρ' X _ E R X' S1 (L.mono f1 p1) (bY.next P1 λuc b o₂ cK bC h₂ tk₂ f2 p2 S2 w2 P2=>
 he A _ loc o₂ cK bC X _ E R X' S2 ((L.mono f1 p1).mono f2 p2) (bY.next P2 λuk kk o₃ eY dS h₃ tk₃ f3 p3 S3 w3 P3=>
 bY.rC (s:={s with heap:=h₃,toks:=tk₃}) S3 ((w1.mono f2 p2).mono f3 p3) P3 λd aaA z9 f5 S5 w5 P5=>
 FG Fa (C:=λr=>bY Fa cx A z9 dS X {s with heap:=h₃,toks:=tk₃} Q E (r.bind λZ o=> .ok (.next loc) o)) id R S5 ((w2.mono f3 p3).mono f5 (fc _)) (w3.mono f5 (fc _)) w5 P5 λaaz h₆ RO P6 S6=>
 P6 z9 dS X h₆ RO (Sub.refl _) (fc _) (XS.refl _ _) S6 ((((L.mono f1 p1).mono f2 p2).mono f3 p3).mono f5 (fc _)))))) hs
noncomputable def aH.Uz:aH->Option (List (aG×D))
 | .dict .ki l=>some l
 |_=>Option.none
set_option tactic.hygienic true in
theorem Qk{x:aH}(h:x.Uz=some l):x= .dict .ki l:=by
 cases x<;>first |exact aK h |skip
 rename_i t _;cases t<;>first |exact aK h |(cases h;rfl)
noncomputable def HS(c k:V)(o:az):aR V:=bx (Rp o c) λp=>bx p.2.Uz λl=>bx (jC k) λi=>bx (aJ l (.int i)) λd=>bz (c6 l.length) (.ok (.d d) (o.set p.1 (.dict .ki (Bf l (.int i)))))
theorem Q5:Mb Fa N (.builtin "dict.pop") HS:=λ{A s objs F ρ X Q E _ _ _ _} R X' S w wk P=>P.bx λp hp P=>P.bx λl hl P=>P.bx λi hi P=>P.bx λd hd P=>by
 obtain⟨n,x⟩:=p;obtain⟨tk,rfl⟩:=wk.int hi;cases Qk hl;refine(S.live w (λq=>aH.noConfusion q) hp).rec λa o e hi hr g r Z=> ?_;clear w;subst e;refine cps λPP kk=> ?_;obtain⟨kvs,d1,q,nd⟩:=lP.of g r;obtain⟨v,e,w'⟩:=(q.get (.int i)).some hd;refine kk ?_;clear kk;refine call_meetsIn PySem.F.slot_dict_pop d1.typeIs PySem.F.entry_dict_pop (PySem.F.args_dict_pop_2 _ _) (meets_dict_pop_there (cJ G.w .ki) a (yZ (F:=F) (d:= .int i) rfl ⟨tk,rfl⟩) [] (.inl rfl) rfl) ⟨kvs,v,d1,by rw[q.length];exact dM P.bz.1,e,λh' hd' hs=> ?_⟩;obtain⟨o',g',r'⟩:=OR.A2 hd' (q.del (.int i)) (Be nd);exact aS.turned P.bz.2 S hi (λq=>aH.noConfusion q) hr hs g' r' w'
end
noncomputable def MB:List V->Option (Int×Int×Int)
 | [b]=>(jC b).map λb=>(0,b,1)
 | [a,b]=>(jC a).bind λa=>(jC b).map λb=>(a,b,1)
 | [a,b,c]=>(jC a).bind λa=>(jC b).bind λb=>(jC c).map λc=>(a,b,c)
 |_=>none
noncomputable def MA(r:Int×Int×Int):Bool:=Builtin.Range.small r.1 r.2.1 r.2.2&&decide (0<=Builtin.Range.rangeSize r.1 r.2.1 r.2.2/\r.2.2≠0/\Builtin.divisionGoesByPylong (r.2.1 - r.1) r.2.2=false)
noncomputable def Y9(vs:List V)(o:az):aR (List V×Option Nat):=bx (MB vs) λr=>bz (MA r) (.ok (jV r.1 r.2.2 (Builtin.Range.rangeSize r.1 r.2.1 r.2.2).toNat,none) o)
noncomputable def eE(fs:ug):DI:=λloc o=>(fs loc o).bind Y9
section
variable{G:Gd}{ah:Heap}{Fa:aP G ah}{N M:Nat}{F:FZ}{ρ:List Addr}{objs:az}{X:List (Addr×Obj)}{h:Heap}{cx:Cx}{dec:Addr}
theorem Dn(hg:SG Fa cx fn v)(hk:Dl Fa v)(ha:zW Fa N cx es fs)(hst:es.all noStar=true)(hs:mP fn es pos cx.en)
  (hf:∀{A:Around}{s:Shared}{objs:az}{F:FZ}{ρ:List Addr}{X:List (Addr×Obj)}{Q:Value->Shared->Prop}{E:Value->Shared->Prop}{args:List V}{us:List Value},c8 A N->SR G ah F ρ objs X s.heap->j_ G F ρ args us->fB Fa tg A F ρ X s Q E (k args objs)->wpAny (model PR G.w) A (call v us) (λx s₂=>wpAny (model PR G.w) A (pyIter x) Q E s₂) E s):
  Ma Fa N cx (.Call fn es [] pos) tg (λloc o=>(fs loc o).bind k):=λA s loc objs F ρ X Q E R X' S L P=>
 Call_ (hg A s F ρ objs X _ E S (pP (first:=[]) hk hst (ha A s loc objs F ρ X _ E pos R X' S L (fB.next P λus vs o F' ρ' h' tk f1 p1 S1 w1 P1=>⟨S1.vz Fa,hf (s:={s with heap:=h',toks:=tk}) R S1 w1 P1⟩)))) hs
theorem wA(S:SR G ah F ρ objs X s.heap)(hs:MA (a,b,c)=true)(P:fB Fa tg A F ρ X s Q E (.ok (jV a c (Builtin.Range.rangeSize a b c).toNat,none) objs)):
  wpAny (model PR G.w) A (pyIter (.ref s.heap.objs.size)) Q E {s with heap:=s.heap.push {cls:= .type "range",data:= .fields #[.int a t, .int b u, .int c v]},toks:=tk}:=by
 obtain⟨h1,h2⟩:=bA hs;have h2:=iD h2;refine wpAny_pyIter_range (IsRange.new _ _ _ _ _ _ _) h1 ?_;refine P _ [(_,_)] F F ρ _ tk _ (Sub.refl F) (fc ρ) rfl ((S.push _).cR rfl) ((Fx G ah a c _ _).VZ tg) ⟨_,rfl,⟨pY _, ?_⟩,trivial⟩;rw[Int.toNat_of_nonneg h2.1];show({cls:= .type "range_iterator",data:= .fields #[rawInt a,_,_]}:Obj)={cls:= .type "range_iterator",data:= .fields #[rawInt (a+c * 0),rawInt (_ - 0),rawInt c]};rw[Int.mul_zero,Int.add_zero,Int.sub_zero]
theorem Jf{fn tg:PySem.Expr}{es:List PySem.Expr}{fs:ug}{pos:Pos}(hg:SG Fa cx fn (.type "range"))(ha:zW Fa N cx es fs)(hst:es.all noStar=true)(hs:mP fn es pos cx.en):Ma Fa N cx (.Call fn es [] pos) tg (eE fs):=
 Dn hg t9 ha hst hs λ{A s objs F ρ X Q E args us} R S W P=>cA (C:=fB Fa tg A F ρ X s Q E) id P λr hr P=>by
  obtain⟨hz,P⟩:=ju (C:=fB Fa tg A F ρ X s Q E) id P;rcases args with _ |⟨a,_ |⟨b,_ |⟨c,_ |⟨d,args⟩⟩⟩⟩<;>first |exact aK hr |skip
  ·obtain⟨b,h1,rfl⟩:=mS hr;exact W.rec λu us e w W0=>by
    obtain⟨t,q⟩:=w.int h1;clear w W hst ha;subst e;subst q;cases W0;exact call_range_1 (wA S hz P)
  ·obtain⟨a,h1,hr⟩:=bS hr;obtain⟨b,h2,rfl⟩:=mS hr;exact W.rec λu us e w W0=>W0.rec λu' us' e' w' W1=>by
    refine cps λPP kk=> ?_;obtain⟨t,q⟩:=w.int h1;obtain⟨t',q'⟩:=w'.int h2;refine kk ?_;clear kk;clear w' h2 W0 w h1 hr W R hs hst ha hg pos fs es fn;subst e;subst e';subst q;subst q';cases W1;exact call_range_2 (wA S hz P)
  ·obtain⟨a,h1,hr⟩:=bS hr;obtain⟨b,h2,hr⟩:=bS hr;obtain⟨c,h3,rfl⟩:=mS hr;have q0:=iD (bA hz).2;exact W.rec λu us e w W0=>W0.rec λu' us' e' w' W1=>W1.rec λu2 Wq e2 w2 W2=>by
    obtain⟨t,q⟩:=w.int h1;obtain⟨t',q'⟩:=w'.int h2;obtain⟨t2,q2⟩:=w2.int h3;clear w2 h3 W1 w' h2 W0 w h1 hr W R hs hst ha hg pos fs es fn;subst e;subst e';subst e2;subst q;subst q';subst q2;cases W2;exact call_range_3 q0.2.1 (wA S hz P) (.inl q0.2.2)
noncomputable def wN(m:Bool)(x:aH)(o:az):aR V:=if m=true then .ok (.h o.length) (o++[x])else bx (JA x) λd=> .ok (.d d) o
theorem wM{D:Addr}(S:SR G ah F ρ objs ((D,od)::X) h)(hs:Heap.SameBut D h h')(hg:h'.get? D=some o')(ho:OR G F D x o')
  (P:aS Fa (WR G) A F ρ X s Q E (wN m x objs)):Q (.ref D) {s with heap:=h',toks:=tk}:=by
 have hF:=S.lC (D,od) (.head _);have hap:=S.apart (D,od) (.head _);have Zx:∀p ∈ X,p.1≠D:=λp hp q=>(fU.mp S.nodup).1 (cX.mpr ⟨p,hp,q⟩);have S1:=S.off hs;cases m with
 |true=>exact P _ F _ h' tk (Sub.refl _) ⟨_,rfl⟩ (S1.Fb hg hF hap Zx ho) ⟨D,by rw[<-S1.len];exact AA,rfl⟩
 |false=>exact aS.bx P λd hd P=>P _ _ ρ h' tk (bM o' hF) (fc _) (S1.freeze hg hF hap Zx) (OR.JA hd (S1.sD Fa hF) (cj _ _ _) (ho.mono (bM o' hF)))
noncomputable def mE:aH->Bool
 | .dict _ []=>true
 | .bO []=>true
 |_=>false
set_option tactic.hygienic true in
theorem qA(h:mE x=true):OR G F a x (dictOf [] 0):=by
 cases x<;>first |cases h |skip
 ·rename_i t l;cases l<;>first |exact⟨[],0,rfl,rfl,nh⟩ |cases h
 ·rename_i l;cases l<;>first |exact⟨[],0,rfl,⟨[],rfl, .nil⟩,nh⟩ |cases h
noncomputable def dh(m:Bool)(x:aH):DE:=λ_ o=>bz (mE x) (wN m x o)
theorem LX:SE Fa N cx (.Dict [] [] pos) (dh m x):=λA s loc objs F ρ X Q E R X' S L P=>by
 obtain⟨hx,P⟩:=P.bz;have S0:=S.cR (o:=dictOf [] 0) rfl;exact wpAny_Dict_empty (wM (s:=s) (tk:=s.toks) (E:=E) S0 (Heap.SameBut.refl _ _) (S0.ext _ (.head _)).1 (qA hx) P)
noncomputable def rA(l ps:List (aG×D)):List (aG×D):=ps.foldl (λacc p=>b_ acc p.1 p.2) l
noncomputable def sV(t:KT):List V->Option (List aG)
 | []=>some []
 |v::vs=>(y_ t v).bind λk=>(sV t vs).map (λZ=>k::Z)
noncomputable abbrev N3:=bL->az->aR (List (V×V))
noncomputable def fV:N3:=λ_ o=> .ok [] o
noncomputable def bW(f g:DE)(r:N3):N3:=λloc o=>(f loc o).bind λk o=>(g loc o).bind λv o=>(r loc o).bind λps o=> .ok ((k,v)::ps) o
noncomputable def cV(m:Bool)(t:KT)(f:N3):DE:=λloc o=>(f loc o).bind λps o=>bx (sV t (ps.map (λZ=>Z.1))) λks=>(jD (ps.map (λZ=>Z.2)) o).bind λds o=>wN m (.dict t (rA [] (ks.zip ds))) o
structure YE(G:Gd)(F:FZ)(ρ:List Addr)(ps:List (V×V))(us:List (Value×Value)):Prop where
 k:j_ G F ρ (ps.map (λZ=>Z.1)) (us.map (λZ=>Z.1))
 v:j_ G F ρ (ps.map (λZ=>Z.2)) (us.map (λZ=>Z.2))
noncomputable def Vc(Fa:aP G ah)(N:Nat)(cx:Cx)(pairs:List (Sem Value×Sem Value))(f:N3):Prop:=∀(A:Around)(s:Shared)(loc:bL)(objs:az)(F:FZ)(ρ:List Addr)(X:List (Addr×Obj))(Q:List (Value×Value)->Shared->Prop)(E:Value->Shared->Prop),
 c8 A N->iO A X->SR G ah F ρ objs X s.heap->aW G F ρ cx X loc->aS Fa (YE G) A F ρ X s Q E (f loc objs)->wpAny (model PR G.w) A (evalPairs pairs) Q E s
theorem QK:Vc Fa N cx [] fV:=λA s loc objs F ρ X Q E R X' S L P=>evalPairs_nil (P.done' S ⟨rfl,rfl⟩)
theorem Mg(hf:SE Fa N cx k f)(hg:SE Fa N cx v g)(hr:Vc Fa N cx rest r):
  Vc Fa N cx ((eval k cx.en,do let x <-eval v cx.en;standAt pos;pure x)::rest) (bW f g r):=
 λA s loc objs F ρ X Q E R X' S L P=>evalPairs_cons (hf A s loc objs F ρ X _ E R X' S L (aS.next P λuk a o F' ρ' h' tk f1 p1 S1 w1 P1=>
 bf (hg A _ loc o F' ρ' X _ E R X' S1 (L.mono f1 p1) (aS.next P1 λuv b o₂ cK bC h₂ tk₂ f2 p2 S2 w2 P2=>
 bf (uo (dz (hr A _ loc o₂ cK bC X _ E R X' S2 ((L.mono f1 p1).mono f2 p2) (aS.next P2 λus ps o₃ eY dS h₃ tk₃ f3 p3 S3 w3 P3=>
 P3.stay S3 ⟨⟨uk,us.map (λZ=>Z.1),rfl,(w1.mono f2 p2).mono f3 p3,w3.1⟩,⟨uv,us.map (λZ=>Z.2),rfl,w2.mono f3 p3,w3.2⟩⟩))))))))
theorem Eh{C:aR β->Prop}{G':Prop}(h0:¬C .stuck)(P:C ((jD vs o).bind f))(k:∀ds o',jD vs o= .ok ds o'->C (f ds o')->G'):G':=by
 cases e:jD vs o with
 |ok ds o'=>rw[e]at P;exact k ds o' e P
 |exc x o'=>exact absurd e (tH x o')
 |stuck=>rw[e]at P;exact absurd P h0
structure Z7(G:Gd)(F:FZ)(l:List (aG×D))(kvs:List (aG×Value)):Prop where
 q:KV G F l kvs
 nd:(l.map (λZ=>Z.1)).Nodup
theorem KV.merge(h:Al (Vo G F) ps kvs):∀{l:List (aG×D)}{acc:List (aG×Value)},Z7 G F l acc->Z7 G F (rA l ps) (merged acc kvs):=by
 induction h with
 |nil=>exact λx=>x
 | @cons a b _ _ r _ ih=>
  obtain⟨k,d⟩:=a;obtain⟨k',v⟩:=b;obtain⟨e,r⟩:=r;rcases(show k'=k from e)with⟨⟩
  exact λx=>ih ⟨x.q.app r,jt x.nd⟩
theorem sU:∀{ps:List V}{ks:List aG}{us:List (Value×Value)}{ds:List D},sV t ps=some ks->j_ G F ρ ps (us.map (λZ=>Z.1))->cG G F ds (us.map (λZ=>Z.2))->Carries (cJ G.w t) us (ks.zip (us.map (λZ=>Z.2)))/\Al (Vo G F) (ks.zip ds) (ks.zip (us.map (λZ=>Z.2)))
 | [],ks,[],ds,hk,w,v=>by cases hk;exact⟨trivial, .nil⟩
 | [],ks,_::_,ds,hk,w,v=>by cases w
 |p::ps,ks,[],ds,hk,w,v=>w.rec λZ Z e Z Z=>by cases e
 |p::ps,ks,(uk,uv)::us,[],hk,w,v=>by cases v
 |p::ps,ks,(uk,uv)::us,d::ds,hk,w,v=>by
  obtain⟨k,h1,h2⟩:=bS hk;clear hk;obtain⟨ks',h3,rfl⟩:=mS h2;refine w.rec λu us' e w1 w2=>v.rec λu2 Wq e2 v1 v2=> ?_;refine cps λPP kk=> ?_;obtain⟨e3,e4⟩:=nY e;obtain⟨e5,e6⟩:=nY e2;clear e2 e;subst e4;subst e6;obtain⟨a,b⟩:=sU h3 w2 v2;refine kk ?_;clear kk;exact⟨⟨ry h1 ((show u=uk from e3.symm)▸w1),rfl,a⟩, .cons ⟨rfl,(show u2=uv from e5.symm)▸v1⟩ b⟩
theorem Fl.sub(f:Fl G ah Fa.j4 A F ρ objs (p::X) x e h)(nd:(X.map (λZ=>Z.1)).Nodup):Fl G ah Fa.j4 A F ρ objs X x e h:=f.rec λbase l a he hl hn ff st S hm t=>
 ⟨base,l,a,he,hl,hn,ff,st,S.sub (λq hq=>iE.mpr ⟨.tail _ (iE.mp hq).1,(iE.mp hq).2⟩) (nd.sublist (rL.map _)),λq hq=>hm q (.tail _ hq),t⟩
theorem QB{t:KT}(hf:Vc Fa N cx pairs f)
  (hshape:(evalEachOpt ks cx.en).zip ((evalEach vs cx.en).map λv=>do let x <-v;standAt pos;pure x)=pairs.map λp=>(some p.1,p.2))(h0:pairs≠[])(hlen:pairs.length<=15):SE Fa N cx (.Dict ks vs pos) (cV m t f):=λA s loc objs F ρ X Q E R X' S L P=>by
 have S0:=S.cR (o:=dictOf [] 0) rfl;refine wpAny_Dict_pairs (knd:=cJ G.w t) hshape h0 hlen (hf A {s with heap:=s.heap.push {cls:= .type "dict",data:= .dict #[]}} loc objs F ρ ((s.heap.objs.size,dictOf [] 0)::X) _ E R (X'.cons _) S0 (L.cons _) ?_);unfold cV at P;cases hr:f loc objs with
 |stuck=>rw[hr]at P;exact P
 |exc x o=>rw[hr]at P;exact λe F' ρ' h' tk f1 p1 fl=>P e F' ρ' h' tk f1 p1 (fl.sub S.nodup)
 |ok ps o=>
  rw[hr]at P;exact λus F' ρ' h' tk f1 p1 S1 w1=>aS.bx P λkk hk P=>Eh (C:=aS Fa (WR G) A F ρ X s Q E) id P λds o₂ hm P=>(S1.jD Fa w1.v hm).rec λcK f2 S2 v2=>by
   obtain⟨c1,c2⟩:=sU hk (w1.k.mono f2 (fc _)) v2;refine⟨_,c1,⟨_, #[],0,(S2.ext (s.heap.objs.size,dictOf [] 0) (.head _)).1,⟨rfl,rfl,rfl⟩,rfl,λe he=>(nomatch he), .nil,nh⟩,λh₂ hd hs=> ?_⟩;have m:=KV.merge c2 (l:=[]) (acc:=[]) ⟨⟨rfl,rfl⟩,nh⟩;obtain⟨od,g1,g2⟩:=OR.A2 hd m.q m.nd;exact wM (s:=s) (E:=E) S2 hs g1 g2 (aS.mono (h:=s.heap) (tk:=s.toks) P (f1.trans f2) p1)
end
noncomputable def BU(w:World)(e:PySem.Expr)(env:Env)(m:Str->Option Value)(u:Value):Prop:=∀(A:Around)(s:Shared)(h₀:Heap)(Q:Value->Shared->Prop)(E:Value->Shared->Prop),Fr h₀ env.locals s.heap m->Q u s->wpAny (model PR w) A (eval e env) Q E s
structure IS(K:Frag)(C:Addr)(x:Str):Prop where
 hs:findIn K (.ref C) "__setattr__"=some (some (.builtin "object.__setattr__"))
 hp:plainOver K C=true
 ht:takerIn K C x=some none
 hh:hasDictIn K C=true
inductive qT(w:World)(K:Frag)(C:Addr)(env:Env)(m:Str->Option Value):List Stmt->List (Str×Value)->Prop
 |nil:qT w K C env m [] []
 |cons {x:Str} {u:Value} {e:PySem.Expr} {np p pos:Pos} {rest:List Stmt} {xs:List (Str×Value)}:IS K C x->BU w e env m u->swapsWith e (some (.Attribute (.Name "self" np) x p)) pos.line env=pure false->qT w K C env m rest xs->
   qT w K C env m (.Assign [.Attribute (.Name "self" np) x p] e pos::rest) ((x,u)::xs)
structure YD(w:World)(x:Str)(hsh:Int)(key v:Value)(es:List DictEntry)(xs:List Str):Prop where
 put:putL x hsh key v es=es++[⟨hsh,key,v⟩]
 any:es.any (λZ=>Z.key.isStr x)=false
 get:(getL x es).isSome=true
 len:es.length=xs.length
theorem Ck:∀{xs:List Str}{es:List DictEntry},dZ w xs es->x ∉ xs->YD w x hsh key v es xs
 | [],_,h,_=>by cases h;exact⟨rfl,rfl,rfl,rfl⟩
 |y::xs,_,h,hn=>by
  obtain⟨e,r,rfl,⟨t,a⟩,b,c⟩:=h;have ih:=Ck (x:=x) (hsh:=hsh) (key:=key) (v:=v) c λh=>hn (.tail _ h);have ne:¬y=x:=λq=>hn (q▸ .head _);have hf:(e.key.isStr x)=false:=by rw[a];exact Av.mpr ne
  refine⟨?_,by rw[List.any_cons,hf,ih.any];rfl,by rw[jo a,aZ ne];exact ih.get,congrArg (λZ=>Z+1) ih.len⟩;unfold putL;rw[hf];exact congrArg (λZ=>e::Z) ih.put
theorem lJ(h':dZ w ys fs):∀{xs:List Str}{es:List DictEntry},dZ w xs es->dZ w (xs++ys) (es++fs)
 | [],_,h=>by cases h;exact h'
 |_::_,_,h=>by obtain⟨e,r,rfl,a,b,c⟩:=h;exact⟨e,r++fs,rfl,a,b,lJ h' c⟩
structure N2(w:World)(h₀:Heap)(L D:Addr)(m:Str->Option Value)(h:Heap)(done:List Str)(es:List DictEntry)(n:Nat):Prop where
 fr:Fr h₀ L h m
 nw:News h₀ L h [(D,dictOf es n)]
 na:dZ w done es
theorem Ht{K:Frag}{C x D:Addr}(hk:env.scope.kind= .function)(hself:env.kindOf ("self":Str)=some .local)(hm:m ("self":Str)=some (.ref x))(X:K.In h₀)(hx:h₀.get? x=some (instObj C D))(ib:qT w K C env m body xs):
  ∀{A:Around}{s:Shared}{Q:Flow->Shared->Prop}{E:Value->Shared->Prop}{done:List Str}{es:List DictEntry}{n:Nat},N2 w h₀ env.locals D m s.heap done es n->(done++xs.map (λZ=>Z.1)).Nodup->done.length+xs.length<=1000->
   (∀h' tk es' n',N2 w h₀ env.locals D m h' (done++xs.map (λZ=>Z.1)) es' n'->es'.map (λZ=>Z.val)=es.map (λZ=>Z.val)++xs.map (λZ=>Z.2)->Q .next {s with heap:=h',toks:=tk})->wpAny (model PR w) A (execs body env) Q E s:=by
 induction ib with
 |nil=>exact λ{A s Q E done es n} I nd hz hQ=>wpAny_execs_nil (hQ s.heap s.toks es n (by rw[List.map_nil,fC];exact I) (fC _).symm)
 | @cons y u e np p pos rest xs so qu sw ib ih=>
  intro A s Q E done es n I nd hz hQ;refine uu (plainObj_wpAny_Assign_Attribute (qu A s h₀ _ _ I.fr (wpAny_Name (wpAny_loadName_local hk hself I.fr.ns hm ?_) (by decide))) sw);have Ia:InstAt s.heap x (instObj C D) C (some (dictOf es n)):=⟨I.fr.keep _ _ hx,rfl,rfl,(I.nw (D,dictOf es n) (.head _)).1⟩;have p1:=Ck (x:=y) (hsh:=PyData.keyHash w.params y) (key:= .str y (s.toks+1)) (v:=u) I.na λhy=>(nk.mp nd).2.2 y hy y (.head _) rfl;have p2:putN y es n=n+1:=by unfold putN;rw[p1.any];rfl
  refine set_dict I.fr X I.nw Ia rfl so.hs so.hp so.ht so.hh p1.get (by rw[p1.put,p2]) (.head (λZ h=>nomatch h)) (by rw[dJ,p1.len];exact cS (iR (kX (pY _)) _) hz) λh' F' N'=> ?_;have ap:∀z:List Str,(done++[y])++z=done++y::z:=λz=>by rw[jA];rfl
  refine ih (s:={s with heap:=h',toks:=s.toks+2}) (done:=done++[y]) ⟨F',N',lJ (show dZ w [y] [⟨PyData.keyHash w.params y, .str y (s.toks+1),u⟩]from⟨_,[],rfl,⟨_,rfl⟩,rfl,rfl⟩) I.na⟩ (by rw[ap];exact nd) (by rw[dJ];rw[jS]at hz;exact cS (jR (by rw[Nat.add_right_comm,oS];rfl)) hz) λh₂ tk es' n' I2 hv=> ?_;rw[ap]at I2;exact hQ h₂ tk es' n' I2 (by rw[hv,fZ,jA];rfl)
structure xQ(K:Frag)(C fI:Addr):Prop where
 mak:makesIn K C=true
 init:findIn K (.ref C) "__init__"=some (some (.ref fI))
 fn:typeIn K (.ref fI)=some (.type "function")
structure lE(G:Gd)(ah:Heap)(a:Addr)(fx:FuncData)(qual:Str)(scope:Scope)(body:List Stmt)(cdv:Value)(ps:List Str)(fW:List D)(fT:List Value):Prop where
 MT:∃fo,ah.get? a=some fo/\fo.data= .func fx
 is:∃name params dV kV doc pm an ct,fx=fnX name qual params body scope [] dV kV doc pm an cdv ct
 code:ah.CodeRec cdv qual
 co:scope.isCoroutine=false
 gen:scope.isGenerator=false
 kind:scope.kind= .function
 dv:∀F,jF (ah.get?,λ_=>none) F->cG G F fW fT
 binds:∀(s:Shared)(us:List Value),ah.StaysIn s.heap->us.length+fT.length=ps.length->BindsTo s fx ⟨us,[]⟩ (ps.zip (us++fT))
section
variable{G:Gd}{ah:Heap}{Fa:aP G ah}{N M:Nat}{F:FZ}{ρ:List Addr}{objs:az}{X:List (Addr×Obj)}{h:Heap}{cx:Cx}{dec:Addr}
theorem qM{l:List (Str×Value)}(nd:(l.map (λZ=>Z.1)).Nodup)(h:(k,v) ∈ l):l.lookup k=some v:=by
 induction l with
 |nil=>cases h
 |cons p l ih=>
  have yN:=fU.mp nd;rw[lV];rcases cN.mp h with e |e
  ·clear yN h nd;subst e;rw[lQ]
  ·rw[show(k==p.1)=false from Av.mpr λq=>yN.1 (cX.mpr ⟨_,e,q⟩)];exact ih yN.2 e
theorem Cy
  (O:xQ Fa.K C fI)(Z:lE G ah fI fx qual scope body cdv (("self":Str)::ps) fW fT)(ie:∀y ∈ scope.names,y.2≠ .cell)(hloc:∀y ∈ ("self":Str)::ps,scope.names.lookup y=some .local)(hps:(("self":Str)::ps).Nodup)
  (hbody:∀L x,qT G.w Fa.K C (envX qual scope L fI cdv []) (λy=>(((("self":Str)::ps).zip (x::(us++fT))).reverse.lookup y)) body xs)
  (hlen:us.length+fT.length=ps.length)(hn:(xs.map (λZ=>Z.1)).Nodup)(hz:xs.length<=1000)(R:c8 A (N+2))(S:SR G ah F ρ objs X s.heap)
  (hQ:∀(x D:Addr)(h':Heap)(tk:Nat)(es:List DictEntry)(n:Nat),F.1 x=none->F.1 D=none->x≠D->SR G ah (uB (uB F D (dictOf es n)) x (instObj C D)) ρ objs X h'->dZ G.w (xs.map (λZ=>Z.1)) es->es.map (λZ=>Z.val)=xs.map (λZ=>Z.2)->Q (.ref x) {s with heap:=h',toks:=tk}):
  wpAny (model PR G.w) A (call (.ref C) us) Q E s:=by
 have XK:=S.vz Fa;have st:ah.StaysIn s.heap:=λb o e=>S.stays b o (S.base b o e);refine cps λPP kk=> ?_;obtain⟨fo,hfo,hd⟩:=Z.MT;have hb:=Z.binds;obtain⟨name,params,dV,kV,doc,pm,an,ct,rfl⟩:=Z.is;refine kk ?_;clear kk;refine wpAny_call ?_;obtain⟨hh,g,d,t,os⟩:=s;refine make_core (makes_of XK O.mak) (looks_findIn XK O.init) (λself=>bind_fn XK self O.fn) (.inl rfl) ?_;generalize hH:(hh.push emptyDict).push (instObj C hh.objs.size)=H;have sz:H.objs.size=hh.objs.size+2:=by rw[<-hH,rK,rK]
 have up:∀b o,hh.get? b=some o->H.get? b=some o:=λb o e=>hH▸jd _ (jd _ e);have gD:H.get? hh.objs.size=some emptyDict:=hH▸jd _ (oU _ rfl);have gx:H.get? (hh.objs.size+1)=some (instObj C hh.objs.size):=by
  rw[<-hH];have:=oU (hh.push emptyDict) (o:=instObj C hh.objs.size) rfl
  rwa [rK]at this
 have D9:(A.under (Code.builtin "type.__call__" {pos:= .ref C::us})).depth < recursionLimit:=eG (cS (by rw[depth_under_kw];exact iR (by decide) _) (cS (iR (by decide:3<=20) _) (oV (fN _ _) _))) R.2;have st':ah.StaysIn H:=λb o e=>up _ _ (st b o e);refine codeAny_call_function (s:=⟨H,g,d,t,os⟩) D9 (st' _ _ hfo) hd Z.co Z.gen rfl (Z.code.keeps st') (hb ⟨H,g,d,t,os⟩ (_::us) st' (by rw[jS,Nat.add_right_comm,hlen];rfl) _ _ _ _ ?_);refine wpAny_newFunctionEnv ie (λy hy=>hloc _ (List.of_mem_zip hy).1) (λh₁ hns EJ=> ?_) Z.kind;have lq:∀b o,H.get? b=some o->h₁.get? b=some o:=λb o e=>EJ.extBut b o (jc (fL e)) (jd _ e);refine⟨(Fa.vj.keeps st').keeps lq,codeAny_func ?_⟩;have ne:∀{b},b≠hh.objs.size->b ∉ [hh.objs.size]:=λn q=>n (dQ.mp q);have Pr:(((("self":Str)::ps).zip (Value.ref (hh.objs.size+1)::(us++fT))).reverse.lookup ("self":Str))=some (.ref (hh.objs.size+1)):=qM (by
  rw[List.map_reverse];refine(List.reverse_perm _).nodup_iff.mpr ?_;rw[List.map_fst_zip (by rw[jS,jS,dJ,hlen];exact Nat.le_refl _)];exact hps) (List.mem_reverse.mpr (.head _))
 refine Ht (env:=envX qual scope H.objs.size fI cdv []) (h₀:=hideAll H [hh.objs.size]) (D:=hh.objs.size) Z.kind (hloc _ (.head _)) Pr (λa o e=>nR _ (up _ _ (XK a o e)) (ne (jc (fL (XK a o e))))) (nR _ gx (ne (Nat.succ_ne_self _))) (hbody H.objs.size (.ref (hh.objs.size+1))) (s:=⟨h₁,g,d,_,os⟩) (done:=[]) (es:=[]) (n:=0)
  ⟨⟨hns,λb o e=>lq _ _ (of_hideAll _ e),jR (hideAll_size _ _)⟩,λp hp=> ?_,rfl⟩ hn (by rw[nj,jQ];exact hz) ?_
 ·rw[dQ.mp hp];exact⟨lq _ _ gD,by rw[sz];exact jc (Nat.lt_add_of_pos_right (by decide)),hideAll_none _ (.head _)⟩
 intro h₂ tk es n I2 hv;refine⟨rfl, ?_⟩;have S1:SR G ah F ρ objs X h₂:=S.turn λb o e=>I2.fr.keep b o (nR _ (up _ _ e) (ne (jc (fL e))));have le:hh.objs.size<=hh.objs.size+1:=oR _;have S2:=S1.freeze (I2.nw (hh.objs.size,dictOf es n) (.head _)).1 (S.xr (Nat.le_refl _)) (S.Eg (Nat.le_refl _)) (S.pH (Nat.le_refl _));have nx:(uB F hh.objs.size (dictOf es n)).1 (hh.objs.size+1)=none:=by rw[iT _ _ (Nat.succ_ne_self _)];exact S.xr le
 exact hQ (hh.objs.size+1) hh.objs.size h₂ tk es n (S.xr le) (S.xr (Nat.le_refl _)) (Nat.succ_ne_self _) (S2.freeze (I2.fr.keep _ _ (nR _ gx (ne (Nat.succ_ne_self _)))) nx (S.Eg le) (S.pH le)) I2.na hv
noncomputable def CQ(c:Cl)(k:Nat)(fW:List D)(args:List V)(o:az):aR V:=bz (decide (args.length+fW.length=k)) ((jD args o).bind λds o=> .ok (.d (.inst c (ds++fW))) o)
theorem IV
  (O:xQ Fa.K (G.pO c) fI)(Z:lE G ah fI fx qual scope body cdv (("self":Str)::ps) fW fT)(ie:∀y ∈ scope.names,y.2≠ .cell)(hloc:∀y ∈ ("self":Str)::ps,scope.names.lookup y=some .local)(hps:(("self":Str)::ps).Nodup)(hcf:(bJ c).length=ps.length)(hz:ps.length<=1000)(hnd:(bJ c).Nodup)
  (hbody:∀(L:Addr)(x:Value)(us:List Value),us.length+fT.length=ps.length->qT G.w Fa.K (G.pO c) (envX qual scope L fI cdv []) (λy=>(((("self":Str)::ps).zip (x::(us++fT))).reverse.lookup y)) body ((bJ c).zip (us++fT))):
  kQ Fa (N+2) (.ref (G.pO c)) (CQ c ps.length fW):=λA s objs F ρ X Q E args us R X' S W P=>by
 obtain⟨hlen,P⟩:=P.bz;have hlen:=iD hlen;refine P.jD S W λds o F₁ f1 S1 v1 P=> ?_;have D8:=Z.dv F₁ λb o e=>S1.base b o e;have Hv:us.length+fT.length=ps.length:=by rw[W.length,D8.length];exact hlen
 have zl:(us++fT).length=(bJ c).length:=by rw[dJ,Hv,hcf]
 have z1:(((bJ c).zip (us++fT)).map (λZ=>Z.1))=bJ c:=List.map_fst_zip (jR zl.symm);have z2:(((bJ c).zip (us++fT)).map (λZ=>Z.2))=us++fT:=List.map_snd_zip (jR zl);refine Cy (xs:=(bJ c).zip (us++fT)) O Z ie hloc hps (λL x=>hbody L x us Hv) Hv (by rw[z1];exact hnd) (by rw[List.length_zip,zl,Nat.min_self,hcf];exact hz) R S1 λx D h' tk es n n1 n2 n3 S2 na hv=> ?_;rw[z1]at na;rw[z2]at hv;have VM:Sub F₁ (uB F₁ D (dictOf es n)):=bM _ n2;have Y7:Sub (uB F₁ D (dictOf es n)) (uB (uB F₁ D (dictOf es n)) x (instObj (G.pO c) D)):=bM _ (by rw[iT _ _ n3];exact n1);exact P _ _ ρ h' tk (VM.trans Y7) (fc _) S2 ⟨x,D,es,n,rfl,cj _ _ _,by rw[iT _ _ (Ne.symm n3)];exact cj _ _ _,na,by rw[hv];exact(cG.append D8 v1).mono (VM.trans Y7)⟩
noncomputable def mz(t r:V)(o:az):aR V:=match t with
 | .h t=>if isNone r=true then .stuck else .ok (.bV t r) o
 |_=> .stuck
theorem yz{u:Value}(hk:env.scope.kind= .function)(hx:env.kindOf x=some .local)(hd:(x==("__debug__":Str))=false)
  (hm:m x=some u)(h1:plainIs u .none=true)(h2:(u== .none)=false):BU w (.IfExp (.Compare (.Name x p1) [.Is] [.Constant .none k p2] p3) (.Dict [] [] p4) (.Name x p5) pos) env m u:=λA s h₀ Q E Fh q=>
 wpAny_IfExp (wpAny_isTrue_Compare1 (wpAny_Name (wpAny_loadName_local hk hx Fh.ns hm (wpAny_Constant_none (wpAny_is_plain h1 (by rw[h2];exact wpAny_truthy_bool (wpAny_Name (wpAny_loadName_local hk hx Fh.ns hm q) hd))))) hd))
theorem AS(hk:env.scope.kind= .function)(hx:env.kindOf x=some .local)(hd:(x==("__debug__":Str))=false)(hm:m x=some u):BU w (.Name x p) env m u:=λA s h₀ Q E Fh q=>
 wpAny_Name (wpAny_loadName_local hk hx Fh.ns hm q) hd
set_option tactic.hygienic true in
theorem IW
  (O:xQ Fa.K G.g_ fI)(Z:lE G ah fI fx qual scope body cdv [("self":Str),"table","trailer"] [] [])(ie:∀y ∈ scope.names,y.2≠ .cell)(hloc:∀y ∈ [("self":Str),"table","trailer"],scope.names.lookup y=some .local)
  (hbody:∀(L:Addr)(x a b:Value),plainIs a .none=true->(a== .none)=false->plainIs b .none=true->(b== .none)=false->qT G.w Fa.K G.g_ (envX qual scope L fI cdv []) (λy=>(([("self":Str),"table","trailer"].zip [x,a,b]).reverse.lookup y)) body [("table",a),("trailer",b)]):
  Mb Fa (N+2) (.ref G.g_) mz:=λ{A s objs F ρ X Q E v r u ur} R X' S w1 w2 P=>by
 cases v<;>first |exact P.elim |skip
 rename_i t;have P:aS Fa (WR G) A F ρ X s Q E (if isNone r=true then .stuck else .ok (.bV t r) objs):=P;split at P
 ·exact P.elim
 rename_i hr;obtain⟨i1,i2⟩:=pg w2;refine w1.rec λa ha eu=> ?_;clear w1;subst eu;refine Cy (us:=[.ref a,ur]) (fT:=[]) (fW:=[]) (ps:=[("table":Str),"trailer"]) (xs:=[("table", .ref a),("trailer",ur)]) O Z ie hloc (by decide) (λL x=>hbody L x _ _ rfl rfl i1 (by rw[i2];exact Bool.eq_false_iff.mpr hr)) rfl (show([("table":Str),"trailer"]).Nodup by decide) (show 2<=1000 by decide) R S λx D h' tk es n n1 n2 n3 S2 na hv=> ?_;have VM:Sub F (uB F D (dictOf es n)):=bM _ n2;have sb:=VM.trans (bM (F:=uB F D (dictOf es n)) (instObj G.g_ D) (by rw[iT _ _ n3];exact n1));exact P _ _ ρ h' tk sb (fc _) S2 ⟨x,D,es,n, .ref a,ur,rfl,cj _ _ _,by rw[iT _ _ (Ne.symm n3)];exact cj _ _ _,na,hv,⟨a,ha,rfl⟩,w2.mono sb (fc _)⟩
end
noncomputable def tV(is:List Nat)(v:V)(loc:bL)(o:az):aR bL:=bx (OH v) λvs=>bx (rY is.reverse vs.reverse loc) λloc=> .ok loc o
noncomputable def dN(bd:V->bL->az->aR bL)(f:DE):DS:=λloc o=>(f loc o).bind λv o=>(quiet (bd v loc o)).bind λloc o=> .ok (.next loc) o
section
variable{G:Gd}{ah:Heap}{Fa:aP G ah}{N M:Nat}{F:FZ}{ρ:List Addr}{objs:az}{X:List (Addr×Obj)}{h:Heap}{cx:Cx}{dec:Addr}
theorem EA(hf:SE Fa N cx v f)(ht:NU (G:=G) (ah:=ah) cx (.Tuple elts k tp) bd)
  (hs:swapsWithSole [.Tuple elts k tp] v pos.line cx.en=pure false)(hw:swappedStores [.Tuple elts k tp] v cx.en=pure none):S1 Fa N cx (.Assign [.Tuple elts k tp] v pos) (dN bd f):=
 λA s loc objs F ρ X Q E R X' S L P=>Assign_Tuple (hf A s loc objs F ρ X _ E R X' S L (bY.next P λu a o F' ρ' h' tk f1 p1 S1 w1 P1=>bY.quiet P1 λl o₂ hb P1=>ht A _ loc o F' ρ' X _ E a u R.1 S1 (L.mono f1 p1) w1 (by
  rw[hb];exact λc7 h₂ tk₂ x2 S2 L2=>P1 F' ρ' c7 h₂ tk₂ (Sub.refl _) (fc _) x2 S2 L2))) hs hw
theorem j_.rev:∀{vs:List V}{us:List Value},j_ G F ρ vs us->j_ G F ρ vs.reverse us.reverse
 | [],_,h=>by cases h;rfl
 |v::vs,_,h=>h.rec λu us e w W=>by
  clear h;subst e;rw[List.reverse_cons,List.reverse_cons];exact j_.append (l':=[v]) ⟨u,[],rfl,w,rfl⟩ W.rev
theorem Me(ok:oQ cx)(al:Al (λx i=>cx.vis i=some x/\IM cx x) names is)(hf:SE Fa N cx v f)
  (hs:swapsWithSole [.Tuple elts k tp] v pos.line cx.en=pure false)(hw:swappedStores [.Tuple elts k tp] v cx.en=pure (some names)):S1 Fa N cx (.Assign [.Tuple elts k tp] v pos) (dN (tV is) f):=
 λA s loc objs F ρ X Q E R X' S L P=>Assign_Tuple_swapped (hf A s loc objs F ρ X _ E R X' S L (bY.next P λu a o F' ρ' h' tk f1 p1 S1 w1 P1=>bY.quiet P1 λl o₂ hb P1=>
  cA (C:=λr=>r= .ok l o₂) (λq=>by cases q) hb λvs e hb=>cA (C:=λr=>r= .ok l o₂) (λq=>by cases q) hb λloc' e' hb=>(FO S1 w1 e).rec λT us ep eu hT W=>by
   cases hb;clear w1;subst eu;have al':Al (LU (G:=G) cx) (names.reverse.map λn=>bindName cx.en n) is.reverse:=by
    have:∀{ns:List Str}{is:List Nat},Al (λx i=>cx.vis i=some x/\IM cx x) ns is->Al (LU (G:=G) cx) (ns.reverse.map λn=>bindName cx.en n) is.reverse:=λa=>a.rec .nil λ{x i _ _} r Z ih=>by
     rw[List.reverse_cons,List.reverse_cons,fZ];exact ih.append (.cons ⟨x,r.1,r.2,λh=>wpAny_bindName h⟩ .nil)
    exact this al
   have ln:names.length=us.toArray.size:=by
    have:=n_ e';rw[uz,uz,al.length]at this;rw[kj,W.length];exact this
   rw[ln];exact wpAny_unpackItems_tuple R.1 (items:=us.toArray) ⟨_,hT,rfl,_,rfl⟩ λh₂ he=>uZ ok al' (s:={s with heap:=h₂,toks:=tk}) (S1.turn λb o e=>he b o (jc (fL e)) e) (L.mono f1 p1) W.rev e'
    λc7 h₂ tk₂ x2 S2 L2=>P1 F' ρ' c7 h₂ tk₂ (Sub.refl _) (fc _) x2 S2 L2)) hs hw
noncomputable def mq:List D->Option (List Int)
 | []=>some []
 |d::r=>d.int?.bind λi=>(mq r).map (λZ=>i::Z)
theorem sY:∀{l:List D}{vs:List Value}{ns:List Int},cG G F l vs->mq l=some ns->IntsAre vs ns
 | [],_,_,v,e=>by cases v;cases e;exact .nil
 |x::l,_,ns,v,e=>v.rec λu us e1 w v'=>by
  subst e1;obtain⟨i,h0,e⟩:=bS e;obtain⟨ns',h1,rfl⟩:=mS e;cases iB h0;clear v;obtain⟨t,rfl⟩:=w;exact .cons i t (sY v' h1)
noncomputable def oF(v:V)(o:az):aR V:=bx (bU o v) λl=>bz (c6 l.length) (.ok (.d (.tup l)) o)
theorem Ml:EN Fa N (.type "tuple") oF:=λ{A s _ F ρ X Q E v u} R X' S w P=>P.bx λl hl P=>(S.bU Fa w hl).rec λa vs ep e ha r=>by
 clear w;subst e;exact call_tuple_list (items:=vs.toArray) ⟨_,ha,rfl,_,rfl⟩ (λh' hk=>aS.A6 (s:={s with heap:=h'}) (aS.mono (h:=h') (tk:=s.toks) P.bz.2 (Sub.refl _) (fc _)) (S.turn hk) r) (by rw[kj,r.length];exact dM P.bz.1)
noncomputable def zv(v:V)(o:az):aR V:=bx (bU o v) λl=>bz (c6 l.length) (.ok (.d (.list l)) o)
theorem Q0:EN Fa N (.type "list") zv:=λ{A s _ F ρ X Q E v u} R X' S w P=>P.bx λl hl P=>(S.bU Fa w hl).rec λa vs ep e ha r=>by
 clear w;subst e;exact call_list_seq a (T:="list") (items:=vs.toArray) (.inl rfl) ha rfl rfl (λh' c' hk hg=>P.bz.2 _ _ ρ h' s.toks (bM (dF vs c') S.br) (fc _) ((S.turn hk).freeze hg S.br (S.Eg (Nat.le_refl _)) (S.pH (Nat.le_refl _))) ⟨_,vs,c',rfl,cj _ _ _,r.mono (bM _ S.br)⟩) (by rw[kj,r.length];exact dM P.bz.1)
theorem xH:typeLookup (.type "bytes") "__bytes__"=pure (some (.builtin "bytes.__bytes__")):=by rw[typeLookup_type,builtinLookup_eq_fast];kernel_rfl
theorem BB(hQ:Q (.bytes b t) s):wpAny (model PR G.w) A (call (.type "bytes") [.bytes b t]) Q E s:=by
 have new:∀{A:Around}{Q E:Value->Shared->Prop},Q (.bytes b t) s->codeAny (model PR G.w) A (.call (.builtin "bytes.__new__") ⟨[.type "bytes", .bytes b t],[]⟩) (wants Q E) s:=λ{A Q E} hQ=>by
  refine codeAny_of_tree ?_;show wpAny _ A.in1 (do checkBuiltinCall "bytes.__new__" ⟨[.type "bytes", .bytes b t],[]⟩;again (.builtin "bytes.__new__" ⟨[.type "bytes", .bytes b t],[]⟩)) _ _ s;refine bf (wpAny_of_eq (F.bm_newCall _) (dz ⟨plainId_quiet F.bm_plain _,codeAny_builtin F.bm_entry ?_⟩));rw[Au F.bm_plain _];have hT:s.TypeIs (.bytes b t) "bytes":=nV _ _ _;unfold Builtin.«bytes.__new__»;refine bf (wpAny_of_eq (a:=true) rfl ?_);refine bm_if_false rfl ?_;refine bf (wpAny_of_eq F.bm_sub ?_);refine bm_if_false rfl ?_;refine bf (wpAny_of_eq (F.bm_bind _) ?_);refine bf (wpAny_of_eq (a:=()) rfl ?_);refine bf (wpAny_of_eq (a:=()) rfl ?_);refine bm_if_false rfl ?_;refine bf (wpAny_specialOf hT xH ?_);refine bf (wpAny_rule ?_);refine bf (wpAny_typeOf hT ?_);refine bm_if_true rfl ?_
  first
   |exact dz hQ
   |exact dz ⟨_,rfl,hQ⟩
 refine callType_codes (Q₁:=λobj s₁=>obj= .bytes b t/\s₁=s) F.bm_called (F.bm_typeCall _) F.entry_object_init (new ⟨rfl,rfl⟩) λobj s₁ h₁=> ?_;clear new;obtain⟨rfl,rfl⟩:=h₁;exact⟨nV _ _ _,F.args_object_init_2 _ _,object_init_meets F.bm_called.init.lookup F.bm_called.made (by decide) PR G.w A.in1 _ s₁ ⟨nV _ _ _,rfl,hQ⟩⟩
noncomputable def vN(ns:List Int):List UInt8:=ns.map λn=>n.toNat.toUInt8
noncomputable def qx(n:Int):Bool:=decide (0<=n/\n < 256)
noncomputable def j0(v:V)(o:az):aR V:=alt (q7 v) (λb=> .ok (.d (.bytes b)) o) (bx (bU o v) λl=>bx (mq l) λns=>bz (ns.all qx&&c6 l.length) (.ok (.d (.bytes (vN ns))) o))
theorem Mm:EN Fa N (.type "bytes") j0:=λ{A s _ F ρ X Q E v u} R X' S w P=>P.alt
 (λb hb P=>by obtain⟨t,rfl⟩:=w.EM hb;exact BB (P.done' S ⟨t,rfl⟩)) λP=>P.bx λl hl P=>P.bx λns hns P=>(S.bU Fa w hl).rec λa vs ep e ha r=>by
 clear w;subst e;obtain⟨hr,hz⟩:=bA P.bz.1;exact call_bytes_ints (vs:=vs) ⟨_,ha,rfl,_,rfl⟩ (sY r hns) (λn hn=>iD (cZ.mp hr n hn)) (by rw[r.length];exact dM hz) R.1 λh' t k hk=>P.bz.2 _ F ρ h' k (Sub.refl _) (fc _) (S.turn hk) ⟨t,rfl⟩
noncomputable def Ln(v:V)(o:az):aR V:=bx (bU o v) λl=>bx (mq l) λns=>pU ns.sum o
theorem Vv:EN Fa N (.builtin "sum") Ln:=λ{A s _ F ρ X Q E v u} R X' S w P=>P.bx λl hl P=>P.bx λns hns P=>(S.bU Fa w hl).rec λa vs ep e ha r=>by
 clear w;subst e;have hi:=sY r hns;obtain⟨xs,hx⟩:=hi.allInts.items;refine sum_intListG (xs:=xs) R.1 ⟨_,ha,rfl,_,by rw[<-hx]⟩ λh' tk t' hk=> ?_;rw[preSum_eq,Ay (by rw[cO,Array.length_toList];exact Nat.le_refl _), <-nums_intItems, <-hx,show vs.toArray.toList=vs from rfl,hi.numsOf];exact P _ F ρ h' tk (Sub.refl _) (fc _) (S.turn hk) ⟨t',rfl⟩
end
theorem A_:typeLookup (.type "list_reverseiterator") "__len__"=pure none:=by rw[typeLookup_type,builtinLookup_eq_fast];kernel_rfl
theorem GL:typeLookup (.type "list_reverseiterator") "__length_hint__"=pure (some (.builtin "list_reverseiterator.__length_hint__")):=by rw[typeLookup_type,builtinLookup_eq_fast];kernel_rfl
noncomputable def aH.R1:aH->Option (List D)
 | .rev l=>some l
 |_=>Option.none
theorem Kc{x:aH}{l:List D}(h:x.R1=some l):x= .rev l:=by cases x<;>first |exact congrArg _ (iQ h) |exact aK h
noncomputable def m8(v:V)(o:az):aR V:=bx (GJ v) λl=> .ok (.h o.length) (o++[.rev l])
noncomputable def jL(c v:V)(o:az):aR V:=alt (GJ v) (λl2=>bx (Bo o c) λp=>bz (c6 (p.2.length+l2.length)) (.ok (.d .none) (o.set p.1 (.list (p.2++l2)))))<|
 bx (Rp o v) λq=>bx q.2.R1 λl2=>bx (Bo (o.set q.1 .dead) c) λp=>bz (c6 (p.2.length+l2.reverse.length)) (.ok (.d .none) ((o.set q.1 .dead).set p.1 (.list (p.2++l2.reverse))))
section
variable{G:Gd}{ah:Heap}{Fa:aP G ah}{N M:Nat}{F:FZ}{ρ:List Addr}{objs:az}{X:List (Addr×Obj)}{h:Heap}{cx:Cx}{dec:Addr}
theorem BX:EN Fa N (.type "reversed") m8:=λ{A s _ F ρ X Q E v u} R X' S w P=>P.bx λl hl P=>(w.lst hl).rec λa vs ep e ha r=>by
 clear w;subst e;exact call_reversed_list (items:=vs.toArray) ⟨_,S.stays _ _ ha,rfl,_,rfl⟩ (P _ F (ρ++[s.heap.objs.size]) _ s.toks (Sub.refl _) ⟨_,rfl⟩ (S.uU (x:= .rev l) (o:=revObj a ((vs.toArray.size:Int) - 1)) rfl ⟨a,vs,ep,ha,r,rfl,by rw[<-r.length];rfl⟩) ⟨s.heap.objs.size,by rw[<-S.len];exact AA,rfl⟩)
theorem FF{l:az}{n:Nat}{x:aH}(h:l[n]? =some x):l.set n x=l:=by
 obtain⟨q,e⟩:=nc.mp h;rw[<-e,List.set_getElem_self]
theorem zA{A:Around}{R:Result->Shared->Prop}{I a:Addr}{n:Nat}{ds:List D}{T:String}{ob:Nat->Obj->Prop}{st:FZ->List Addr->Prop}(x:IQ G ah none (ds.map V.d) I T ob st)(hh:A.handled=none)(hst:st F ρ)(Xk:ρ[n]? =some a):∀(rest pre:List D),ds=pre++rest->
  ∀(s:Shared)(objs:az)(l:List D)(oI:Obj),SR G ah F ρ objs ((I,oI)::X) s.heap->objs[n]? =some (.list l)->ob pre.length oI->l.length+rest.length<=1000000->
   (∀h' tk,SR G ah F ρ (objs.set n (.list (l++rest))) X h'->R (.ok (.ret .none)) {s with heap:=h',toks:=tk})->codeAny (model PR G.w) A (.builtin "list.extend.loop" ⟨[.ref a, .ref I, .none],[]⟩) R s
 | [],pre,ed,s,objs,l,oI,S,hn,b,hz,hQ=>by
  refine cps λPP kk=> ?_;obtain⟨cI,vI,dI⟩:=x.fld b;refine kk ?_;clear kk;refine codeAny_builtin PySem.F.entry_extend_loop ?_;rw[Au PySem.F.plain_extend_loop _];unfold Builtin.«list.extend.loop»;rw[fC]at ed hQ;rw[FF hn]at hQ;exact bf (x.done (A:=A.in1) hh S hst rfl (S.ext (I,oI) (.head _) (cY dI)).1 b (by rw[ed,Ax (by rw[cO];exact Nat.le_refl _)]) λh' tk e=>dz (hQ h' tk (SR.fall S e)))
 |d::rest,pre,ed,s,objs,l,oI,S,hn,b,hz,hQ=>by
  obtain⟨cI,vI,dI⟩:=x.fld b;refine codeAny_builtin PySem.F.entry_extend_loop ?_;rw[Au PySem.F.plain_extend_loop _];unfold Builtin.«list.extend.loop»;refine bf (x.next (A:=A.in1) (v:= .d d) S hst rfl (S.ext (I,oI) (.head _) (cY dI)).1 b (by rw[ed,fZ,Az (by rw[cO];exact Nat.le_refl _),cO,Nat.sub_self];rfl) λu h₂ tk₂ Ct sb g b₂ w=> ?_);have S2:=SR.lX S sb g;refine(S2.yT (v:= .h n) (u:= .ref a) (q:=(n,l)) ⟨a,Xk,rfl⟩ (by show(objs[n]?.map λx=>(n,x)).bind _=_;rw[hn];rfl)).rec λa' vs ep e hi ha' g' r=> ?_;clear ha' dI;cases e;have lv:vs.length=l.length:=r.length;have lz:l.length+rest.length+1<=1000000:=hz;obtain⟨oG,hg⟩:=iG (λxs=>xs.push u) g';refine bf (m:=Builtin.List.listUpdate (.ref a) (λZ=>Z.push u)) (listUpdate_at g' rfl ?_ (by rw[kj,lv,sizeLine_eq];exact Pp ‹_› rfl) (by simp only[Array.size_push,List.size_toArray];rw[lv,sizeLine_eq];exact W6 ‹_› rfl));refine dz ⟨plainId_quiet PySem.F.plain_extend_loop _, ?_⟩;refine zA x hh hst Xk rest (pre++[d]) (by rw[ed,jA];rfl) {s with heap:=_,toks:=tk₂} (objs.set n (.list (l++[d]))) (l++[d]) Ct (S2.update hn kG Xk (ux ..) hg ⟨vs++[u],oG,by rw[List.push_toArray],cG.append (l':=[d]) ⟨u,[],rfl,w,rfl⟩ r⟩) (List.getElem?_set_self (nc.mp hn).1) (by rw[dJ];exact b₂) (by rw[dJ,Nat.add_right_comm];exact lz) λh' tk S4=> ?_;rw[List.set_set,jA]at S4;exact hQ h' tk S4
theorem Hx{A:Around}{s:Shared}{b:Addr}{Q:Bool->Shared->Prop}{E:Value->Shared->Prop}(hTb:s.TypeIs (.ref b) "list_reverseiterator")(h:Q false s):wpAny (model PR G.w) A (Builtin.List.listLengthHint (.ref b)) Q E s:=by
 unfold Builtin.List.listLengthHint;refine bf (wpAny_specialOf hTb A_ ?_);show wpAny _ _ (specialOf (Value.ref b) (Str.ofString "__length_hint__") >>= _) _ _ _;refine bf (wpAny_specialOf hTb GL ?_);generalize uH:("list_reverseiterator.__length_hint__":String)=Zu
 (fail_if_success (clear uH Zu))
 wp_delta
 rw[show splitId Zu=some ("list_reverseiterator","__length_hint__")from by subst uH;decide+kernel];subst uH;refine bf (wpAny_isInstance (b:=true) hTb (by rw[isSubtype_type];kernel_rfl) ?_);exact dz h
theorem Bs{A:Around}{s:Shared}{a b ax:Addr}{vs:List Value}{ep:Nat}{o:Obj}{n:Int}{Q:Value->Shared->Prop}{E:Value->Shared->Prop}(g2:s.heap.get? a=some (dF vs ep))(g:s.heap.get? b=some o)(c1:o.cls= .type "list_reverseiterator")(c2:o.data= .fields #[.ref ax,rawInt n])
  (k:∀{A':Around}{R:Result->Shared->Prop},A'.handled=A.handled->(∀s',Q .none s'->R (.ok (.ret .none)) s')->codeAny (model PR G.w) A' (.builtin "list.extend.loop" ⟨[.ref a, .ref b, .none],[]⟩) R s):wpAny (model PR G.w) A (call (.builtin "list.extend") [.ref a, .ref b]) Q E s:=by
 have hTb:s.TypeIs (.ref b) "list_reverseiterator":=⟨_,g,c1⟩;have hab:a≠b:=λq=>by rw[q,g]at g2;cases g2;exact absurd (Value.type.inj c1) (by decide)
 refine wpAny_call (codeAny_call_builtin PySem.F.slot_list_extend.plain PySem.F.entry_list_extend (PySem.F.slot_list_extend.check _ _ _ _ _ _ _ _ ⟨_,g2,rfl⟩ (PySem.F.args_list_extend_2 _ _) ?_));show wpAny (model PR G.w) A.in1 (Builtin.List.listExtendWith (.ref a) (.ref b) .none) _ _ s;unfold Builtin.List.listExtendWith;refine bf (wpAny_typeOf hTb ?_);rw[aZ (by simp[Builtin.List.listSameRef,hab])];refine bf (wpAny_pyIter_revIter ⟨_,g,c1,c2⟩ (bf (kW (Hx hTb ?_))));rw[aZ (by decide)];exact dz ⟨plainId_quiet PySem.F.plain_extend_loop _,k rfl λZ h=>h⟩
theorem Jo:Mb Fa N (.builtin "list.extend") jL:=λ{A s objs F ρ X Q E c v u u'} R X' S wc wv P=>P.alt
 (λl2 hl P=>P.bx λp hp P=>(S.yT wc hp).rec λa vs ep e hi ha g r=>(wv.lst hl).rec λb ws Qg e2 hb r2=>by
  clear wv wc;subst e;subst e2;have hz:vs.toArray.size+ws.toArray.size<=sizeLine:=by rw[kj,kj,r.length,r2.length];exact dM P.bz.1
  have hf:((vs.toArray.size+ws.toArray.size:Nat):Int) < 2 ^ 63:=pG (by rw[kj,kj,r.length,r2.length];exact fk P.bz.1);obtain⟨oG,hg⟩:=iG (λxs=>xs++ws.toArray) g;rw[List.append_toArray]at hg;exact call_meets PySem.F.slot_list_extend ⟨_,g,rfl⟩ PySem.F.entry_list_extend (PySem.F.args_list_extend_2 _ _) (AutoSeq1.list_extend_list_list_0 a vs.toArray ep b ws.toArray Qg (extend_door hz) (cS (fN _ _) hz) (by exact qq ‹_› rfl)) ⟨g,S.stays _ _ hb,aS.turned (tk:=s.toks) P.bz.2 S hi kG ha (ux ..) hg ⟨_,oG,rfl,cG.append r2 r⟩ rfl⟩)
 λP=>P.bx λq hq P=>P.bx λl2 hl P=>P.bx λp hp P=>by
  obtain⟨m,x⟩:=q;cases Kc hl;refine(S.live wv (λq=>aH.noConfusion q) hq).rec λb o e hi hb g r Z=> ?_;clear wv;subst e;have S1:=S.Y3 hi (λq=>aH.noConfusion q) hb g;refine(S1.yT wc hp).rec λa vs ep e hi2 ha g2 r2=> ?_;clear wc;subst e;exact r.rec λax ws Qg hx r3 c1 c2=>Bs g2 g c1 c2 λha' hR=>zA (Fw G ah ax l2 ws Qg b) (ha'.trans R.1) ⟨hx,r3⟩ ha l2.reverse [] rfl _ _ p.2 o S1 hi2 ⟨pY _,c1,c2.trans (congrArg (λx=>Data.fields #[.ref ax,rawInt x]) (Int.sub_zero _).symm)⟩ (fk P.bz.1) λh' tk S4=>hR _ (P.bz.2 _ F ρ h' tk (Sub.refl _) (fc _) S4 rfl)
end
section
open Builtin
theorem BC{id:String}{b:Array UInt8}{t:Tok}{f:Bool}:Bytes.buffer? id (.bytes b t) f=pure (some b):=by
 unfold Bytes.buffer?;rw[KBy.special_eq KBy.look_buffer,KBy.own_buffer,KBy.own_release]
 kernel_rfl
theorem B7{M:Model}{A:Around}{s:Shared}{E:Value->Shared->Prop}{Q:Option (Array UInt8×Option Value)->Shared->Prop}{id:String}{b:Array UInt8}{t:Tok}{fl:Int}(h:Q (some (b,none)) s):
  wpAny M A (Bytes.takeBufferQuiet? id (.bytes b t) fl) Q E s:=by
 have e:Bytes.takeBuffer? id (.bytes b t) fl=pure (some (b,none)):=by
  unfold Bytes.takeBuffer?;rw[KBy.special_eq KBy.look_buffer,KBy.own_buffer,BC]
  kernel_rfl
 unfold Bytes.takeBufferQuiet?;refine bf (wpAny_attempt ?_);rw[e];exact dz (show wpAny M A (pure (some (b,none))) Q E s from dz h)
theorem lG:Slot "bytes" "join" "bytes.join":=
 .of (owner:="bytes") (n:="join") (by rw[typeLookup_type,builtinLookup_eq_fast];kernel_rfl) (by decide+kernel) (by decide+kernel) (by decide+kernel)
  (by first |exact .inl (by decide+kernel) |exact .inr (by decide+kernel)) (by rw[isSubtype_type];kernel_rfl)
theorem qz:entryFor table "bytes.join"=some Builtin.«bytes.join»:=entryFor_of_tree (by kernel_rfl)
theorem EF:typeOf (.builtin "bytes.join")=pure (.type "method_descriptor"):=by show builtinType _=_;rw[builtinType_eq_fast];kernel_rfl
theorem pR(a b:Value):argsOk "bytes.join" ⟨[a,b],[]⟩:=by
 unfold argsOk;rw[signature?_of (id:="bytes.join") (n:=['n', 'i', 'o', 'j']) (o:=['s', 'e', 't', 'y', 'b']) (by kernel_rfl) FB.owner_bytes];kernel_rfl
theorem Ec{M:Model}{A:Around}{σ:Type}{s:Shared}{E:Value->Shared->Prop}{Q:σ->Shared->Prop}{body:Nat->σ->Sem (ForInStep σ)}{x0 x1 x2 x3 x4:σ}
  (h0:∀{Q:ForInStep σ->Shared->Prop},Q (.yield x1) s->wpAny M A (body 0 x0) Q E s)(h1:∀{Q:ForInStep σ->Shared->Prop},Q (.yield x2) s->wpAny M A (body 1 x1) Q E s)
  (h2:∀{Q:ForInStep σ->Shared->Prop},Q (.yield x3) s->wpAny M A (body 2 x2) Q E s)(h3:∀{Q:ForInStep σ->Shared->Prop},Q (.yield x4) s->wpAny M A (body 3 x3) Q E s)(h:Q x4 s):wpAny M A (forIn [:4] x0 body) Q E s:=by
 rw[Std.Legacy.Range.forIn_eq_forIn_range'];show wpAny M A (forIn [0,1,2,3] x0 body) Q E s;rw[List.forIn_cons];refine bf (h0 ?_)
 try dsimp only
 rw[List.forIn_cons];refine bf (h1 ?_)
 try dsimp only
 rw[List.forIn_cons];refine bf (h2 ?_)
 try dsimp only
 rw[List.forIn_cons];refine bf (h3 ?_)
 try dsimp only
 rw[List.forIn_nil];exact dz h
theorem CH(b0 b1 b2 b3:Array UInt8):Bytes.joined #[] (#[b0,b1,b2,b3]:Array (Array UInt8)).toList=(((b0++b1)++b2)++b3):=by simp[Bytes.joined,List.zipIdx,List.foldl]
theorem jl{M:Model}{A:Around}{E:Value->Shared->Prop}{Q:Unit->Shared->Prop}{s:Shared}{kp:List Value}(hq:Q () s):∀(l:List Value),wpAny M A (Bytes.joinLetGo (l.map λv=>(v,none)) kp) Q E s
 | []=>dz hq
 |v::l=>bf (wpAny_letGo (jl hq l))
theorem Tz{A:Around}{s:Shared}{E:Value->Shared->Prop}{Q:Value->Shared->Prop}{prog:Program}{w:World}{a:Addr}{t:Tok}{b0 b1 b2 b3:Array UInt8}{t0 t1 t2 t3:Tok}
  (hl:s.heap.IsList a #[.bytes b0 t0, .bytes b1 t1, .bytes b2 t2, .bytes b3 t3])(hz:b0.size+b1.size+b2.size+b3.size<=16777216)
  (h:∀k,Q (.bytes (((b0++b1)++b2)++b3) s.toks) {s with toks:=k}):wpAny (model prog w) A (Builtin.«bytes.join» ⟨[.bytes #[] t, .ref a],[]⟩) (λiP s'=>∃v,iP=PySem.Fin.done (.ret v)/\Q v s') E s:=by
 refine cps λPP kk=> ?_;obtain⟨o,ho,hc,n,hd⟩:=hl;refine kk ?_;clear kk;have sq:∀{A:Around}{Q:Option (Array Value)->Shared->Prop}{E:Value->Shared->Prop},Q (some #[.bytes b0 t0, .bytes b1 t1, .bytes b2 t2, .bytes b3 t3]) s->wpAny (model prog w) A (seqItems? (.ref a)) Q E s:=λ{A Q E} hq=>by
  unfold seqItems?;refine bf (wpAny_load ho ?_);rw[hd];exact dz hq
 unfold Builtin.«bytes.join» Bytes.joinM;refine bf (wpAny_of_eq (a:=(Value.bytes #[] t,Value.ref a)) (by kernel_rfl) ?_)
 try dsimp only
 rw[bw (by decide)];unfold Bytes.joinItems;refine bf (bf (wpAny_typeOf (T:="list") ⟨o,ho,hc⟩ ?_));rw[bw (by decide)];refine dz ?_;refine bf (sq ?_);dsimp only;rw[bw (by decide)];refine bf (Ec (x1:=(#[b0],[(Value.bytes b0 t0,none)])) (x2:=(#[b0,b1],[(Value.bytes b0 t0,none),(Value.bytes b1 t1,none)])) (x3:=(#[b0,b1,b2],[(Value.bytes b0 t0,none),(Value.bytes b1 t1,none),(Value.bytes b2 t2,none)])) (x4:=(#[b0,b1,b2,b3],[(Value.bytes b0 t0,none),(Value.bytes b1 t1,none),(Value.bytes b2 t2,none),(Value.bytes b3 t3,none)]))
  (λhQ=>bf (sq (bf (kW (B7 (b:=b0) (t:=t0) (bf (sq (dz hQ))))))))
  (λhQ=>bf (sq (bf (kW (B7 (b:=b1) (t:=t1) (bf (sq (dz hQ))))))))
  (λhQ=>bf (sq (bf (kW (B7 (b:=b2) (t:=t2) (bf (sq (dz hQ))))))))
  (λhQ=>bf (sq (bf (kW (B7 (b:=b3) (t:=t3) (bf (sq (dz hQ)))))))) ?_)
 refine bf (wpAny_of_eq (a:=(#[]:Array UInt8)) rfl ?_);dsimp only;rw[aZ (by
  show¬(Bytes.tooLong (0+b0.size+b1.size+b2.size+b3.size)=true);rw[KBy.tooLong_not (by rw[jQ];exact hz)];exact As)]
 refine bf (wpAny_mkBytes (bf (kW (wpAny_point (bf (jl (dz ⟨_,rfl, ?_⟩) [.bytes b0 t0, .bytes b1 t1, .bytes b2 t2, .bytes b3 t3]))))) ?_)
 ·rw[CH,sizeLine_eq,Array.size_append,Array.size_append,Array.size_append];exact hz
 ·rw[CH];exact h _
end
noncomputable def OJ(v:V)(_:az):Bool:=(q7 v).isSome
noncomputable def UI:List D->Option (List UInt8)
 | [a,b,c,d]=>a.pQ.bind λa=>b.pQ.bind λb=>c.pQ.bind λc=>d.pQ.map λd=>a++b++c++d
 |_=>none
noncomputable def CX(b v:V)(o:az):aR V:=bx (q7 b) λb=>bz b.isEmpty (bx (bU o v) λl=>bx (UI l) λr=>bz (c6 r.length) (.ok (.d (.bytes r)) o))
section
variable{G:Gd}{ah:Heap}{Fa:aP G ah}{N M:Nat}{F:FZ}{ρ:List Addr}{objs:az}{X:List (Addr×Obj)}{h:Heap}{cx:Cx}{dec:Addr}
inductive B4(r:List UInt8)(l:List D):Prop
 |mk (a b c d:List UInt8) (e:l=[.bytes a, .bytes b, .bytes c, .bytes d]) (q:r=a++b++c++d)
theorem LH{l:List D}{r:List UInt8}(hc:UI l=some r):B4 r l:=by
 rcases l with _ |⟨a0,_ |⟨a1,_ |⟨a2,_ |⟨a3,_ |_⟩⟩⟩⟩<;>first |exact aK hc |skip
 obtain⟨b0,h0,hc⟩:=bS hc;obtain⟨b1,h1,hc⟩:=bS hc;obtain⟨b2,h2,hc⟩:=bS hc;obtain⟨b3,h3,rfl⟩:=mS hc;exact⟨b0,b1,b2,b3,by rw[fY h0,fY h1,fY h2,fY h3],rfl⟩
theorem WL{a b c d:List UInt8}{vs:List Value}(r:cG G F [.bytes a, .bytes b, .bytes c, .bytes d] vs):∃t0 t1 t2 t3,vs=[.bytes a.toArray t0, .bytes b.toArray t1, .bytes c.toArray t2, .bytes d.toArray t3]:=by
 obtain⟨v0,vs,rfl,⟨t0,rfl⟩,v1,vs,rfl,⟨t1,rfl⟩,v2,vs,rfl,⟨t2,rfl⟩,v3,vs,rfl,⟨t3,rfl⟩,rfl⟩:=r;exact⟨t0,t1,t2,t3,rfl⟩
theorem Q4:Mb Fa N (.builtin "bytes.join") CX:=λ{A s _ F ρ X Q E v v' u u'} R X' S wb w P=>P.bx λb hb P=>P.bz.2.bx λl hl P2=>P2.bx λr hc P3=>(S.bU Fa w hl).rec λx vs ep e ha rr=>(LH hc).rec λa b c d el er=>by
 have h0:=P.bz.1;obtain⟨t,rfl⟩:=wb.EM hb;clear hb P wb;cases nZ.mp h0;clear hc P2 hl w;subst e;subst el;subst er;refine cps λPP kk=> ?_;obtain⟨t0,t1,t2,t3,rfl⟩:=WL rr;refine kk ?_;clear kk;have hz:=fk P3.bz.1;rw[dJ,dJ,dJ]at hz;exact yb lG (nV _ _ _) qz (Tz (t:=t) (b0:=a.toArray) (b1:=b.toArray) (b2:=c.toArray) (b3:=d.toArray) ⟨_,ha,rfl,_,rfl⟩ (cS hz (by decide)) λk=>P3.bz.2 _ F ρ s.heap k (Sub.refl _) (fc _) S ⟨s.toks,by rw[List.append_toArray,List.append_toArray,List.append_toArray]⟩) (pR _ _)
theorem Mj{name:Str}{id:String}(slot:Slot "bytes" name id)(hty:typeOf (.builtin id)=pure (.type "method_descriptor")):BQ Fa N name (.builtin id) OJ:=λA s objs F ρ X Q E self u pl R S w hs P=>by
 obtain⟨b,hb⟩:=kq.mp hs;obtain⟨t,rfl⟩:=w.EM hb;exact getMethod_builtin (nV _ _ _) FB.plainAttrs_bytes slot hty (λa e=>by cases e) (P s.toks)
end
theorem wV:typeLookup (.type "list") "keys"=pure none:=by rw[typeLookup_type,builtinLookup_eq_fast];kernel_rfl
theorem D4
  (hx:s.heap.get? a=some {cls:= .type "list",data:= .seq xs k})(hA:A.handled=none)
  (h:∀h' tk,(∀b o,s.heap.get? b=some o->h'.get? b=some o)->Q none {s with heap:=h',toks:=tk}):
  wpAny (model prog w) A (getAttr? (.ref a) "keys") Q E s:=by
 obtain⟨hp,g,d,tk,os⟩:=s;have hT:∀tk',(⟨hp,g,d,tk',os⟩:Shared).TypeIs (.ref a) "list":=λZ=>⟨_,hx,rfl⟩;have f1:=sub_AttributeError;have f3:=F.slot_list_getattribute.lookup;have f4:=F.slot_list_getattribute.bind (.ref a);have f5:=am_list_getattr_none;unfold getAttr? getAttrBy? getAttrBy
 repeat (any_goals (first |assumption |exact hT _ |((with_reducible show wpAny _ _ (call (Value.builtin "list.__getattribute__") _ _) _ _ _);refine call_meets F.slot_list_getattribute (hT _) am_entry_list_getattribute (F.args_list_getattribute_2 _ _) (meets_getattribute_miss_list a xs k #[] "keys" _ wV (by decide) (by decide)) ⟨hx,hA,λh' tk' e hx'=> ?_⟩) |wp_step))
 refine cps λPP kk=> ?_;obtain⟨t',u',he⟩:=hx'.there;refine kk ?_;clear kk;have ZA:∀tk,(⟨h',g,d,tk,os⟩:Shared).TypeIs (.ref e) "AttributeError":=λZ=>⟨_,he,rfl⟩;show wpAny _ _ (getattributeRaised _ _ _ _ _ _ _) _ _ _;unfold getattributeRaised;refine bf (wpAny_isInstance (ZA _) sub_AttributeError ?_);rw[bw rfl];unfold hookBehind;rw[aZ (show¬onTheHeap (Value.type "list")=true by decide)];refine bf (wpAny_of_eq am_list_getattr_none ?_);show wpAny _ _ (attributeErrorLeaves _ _ _ false false) _ _ _;unfold attributeErrorLeaves;show wpAny _ _ (throw (Value.ref e) >>= _) _ _ _;refine bf (wpAny_throw ?_);show wpAny _ _ (isInstance (.ref e) (.type "AttributeError") >>= _) Q E _;refine bf (wpAny_isInstance (ZA _) sub_AttributeError ?_);rw[bw rfl];exact dz (h h' tk' hx'.keeps)
theorem vK:entryFor table "dict.update.loop"=some Builtin.«dict.update.loop»:=entryFor_of_tree (by kernel_rfl)
theorem mW:plainId "dict.update.loop"=true:=by decide+kernel
noncomputable def AZ:List D->Option (D×D)
 | [a,b]=>some (a,b)
 |_=>none
noncomputable def fP:aH->List D->Option aH
 |x,[]=>some x
 |x,d::ds=>(d.AB.bind AZ).bind λkv=>(wC x (.d kv.1) kv.2).bind λx=>fP x ds
theorem DR(e:wC x k v=some x'):rX x'<=rX x+1:=by
 cases x<;>first |exact aK e |skip
 ·obtain⟨kk,_,rfl⟩:=mS e;exact iK
 ·obtain⟨kk,_,rfl⟩:=mS e;exact iK
theorem DU(e:wC x k v=some x'):x.flat=true:=by cases x<;>first |rfl |exact aK e
noncomputable def gw(m:Bool)(x₀:aH)(v:V)(o:az):aR V:=bx (GJ v) λl=>bz (mE x₀&&c6 l.length) (bx (fP x₀ l) λx=>wN m x o)
section
variable{G:Gd}{ah:Heap}{Fa:aP G ah}{N M:Nat}{F:FZ}{ρ:List Addr}{objs:az}{X:List (Addr×Obj)}{h:Heap}{cx:Cx}{dec:Addr}
inductive UZ(G:Gd)(F:FZ)(kd vd:D)(u:Value):Prop
 |mk (T:Addr) (uk uv:Value) (ep:Nat) (e:u= .ref T) (hT:F.1 T=some (fO [uk,uv] ep)) (wk:VR G F kd uk) (wv:VR G F vd uv)
theorem Og(e:d.AB.bind AZ=some p)(w:VR G F d u):UZ G F p.1 p.2 u:=by
 obtain⟨l,h1,h2⟩:=bS e;cases mQ h1;rcases l with _ |⟨a,_ |⟨b,_ |_⟩⟩<;>first |exact aK h2 |skip
 cases h2;exact gy.rec (λT vs ep eu hT r=>r.rec λuk us1 e1 wk r1=>r1.rec λuv Wq e2 wv e3=>by
  clear r1 r;subst e1;subst e2;cases e3;exact⟨T,uk,uv,ep,eu,hT,wk,wv⟩) w
theorem vM{I D:Addr}{st:FZ->List Addr->Prop}(z:IQ G ah none (ds.map V.d) I T ob st)(hh:A.handled=none)(hu:A.units+2 < cLine)(hst:st F ρ)(hz:ds.length<=1000000):∀(rest pre:List Mine.D),ds=pre++rest->
  ∀(s:Shared)(i:Int)(t:Tok)(x:aH)(od oI:Obj),SR G ah F ρ objs ((D,od)::(I,oI)::X) s.heap->OR G F D x od->ob pre.length oI->rX x<=pre.length->fP x rest=some x'->
   (∀h' tk od',SR G ah F ρ objs ((D,od')::X) h'->OR G F D x' od'->R (.ok (.ret .none)) {s with heap:=h',toks:=tk})->codeAny (model PR G.w) A (.builtin "dict.update.loop" ⟨[.ref D, .ref I, .int i t, .none],[]⟩) R s
 | [],pre,ed,s,i,t,x,od,oI,S,ho,b,hk,e,hQ=>by
  obtain⟨cI,vI,dI⟩:=z.fld b;refine codeAny_builtin vK ?_;rw[Au mW _];unfold Builtin.«dict.update.loop»;cases e;rw[fC]at ed;have S':=S.perm (List.Perm.swap (D,od) (I,oI) X);exact bf (z.done (A:=A.in1) hh S' hst rfl (S'.ext (I,oI) (.head _) (cY dI)).1 b (by rw[ed,Ax (by rw[cO];exact Nat.le_refl _)]) λh' tk e=>bf (dz (dz (hQ h' tk od (SR.fall S' e) ho))))
 |d::rest,pre,ed,s,i,t,x,od,oI,S,ho,b,hk,e,hQ=>by
  obtain⟨cI,vI,dI⟩:=z.fld b;obtain⟨kv,e0,e⟩:=bS e;obtain⟨x₁,e1,e2⟩:=bS e;refine codeAny_builtin vK ?_;rw[Au mW _];unfold Builtin.«dict.update.loop»;have S':=S.perm (List.Perm.swap (D,od) (I,oI) X);refine bf (z.next (A:=A.in1) (v:= .d d) S' hst rfl (S'.ext (I,oI) (.head _) (cY dI)).1 b (by rw[ed,fZ,Az (by rw[cO];exact Nat.le_refl _),cO,Nat.sub_self];rfl) λu h₂ tk₂ Ct sb g b₂ w=> ?_);have S3:=(SR.lX S' sb g).perm (List.Perm.swap (I,Ct) (D,od) X);refine(Og e0 w).rec λT uk uv ep eu hT wk wv=> ?_;clear w;subst eu;have Zz:=S3.stays _ _ hT;have hTy:({s with heap:=h₂,toks:=tk₂}:Shared).TypeIs (.ref T) "tuple":=⟨_,Zz,rfl⟩;show wpAny _ _ (holding [Value.ref T] _ >>= _) _ _ _;refine bf (kW (bf (wpAny_tryCatch ?_)));unfold Builtin.Dict.pairItems;refine bf (wpAny_typeOf hTy ?_);rw[bw (by decide)];refine bf (wpAny_seqItems (items:= #[uk,uv]) Zz rfl (dz ?_));have hl:pre.length<=1000000:=cS (by rw[ed,dJ];exact fN _ _) hz;have iP:wpAny (model PR G.w) A.in1 (dictSet D uk uv) (λZ s'=>wpAny (model PR G.w) A.in1 (again (.builtin "dict.update.loop" ⟨[.ref D, .ref I,rawInt (i+1), .none],[]⟩)) (λiP s'=>match iP with | .done f=>R (.ok f) s' | .again c'=>c'.quiet=true/\codeAny (model PR G.w) A c' R s') (λe s'=>R (.error e) s') s') (λe s'=>R (.error e) s') {s with heap:=h₂,toks:=tk₂}:=
   AU (ρ:=[]) (k:= .d kv.1) (s:={s with heap:=h₂,toks:=tk₂}) (.set (by rw[Around.in1_units];exact vU hu)) S3.stays (S3.ext (D,od) (.head _) (ho.exact _ (DU e1))).1 ho wk wv (Nat.ble_eq.mpr (cS hk hl)) e1 λh₃ od' tk₃ g3 o3 hs3=>dz ⟨plainId_quiet mW _,
    vM z hh hu hst hz rest (pre++[d]) (by rw[ed,jA];rfl) {s with heap:=h₃,toks:=tk₃} (i+1) 0 x₁ od' Ct (SR.lX S3 hs3 g3) o3 (by rw[dJ];exact b₂) (by rw[dJ];exact cS (DR e1) (kX hk)) e2 hQ⟩
  first
   |exact kW iP
   |(show wpAny _ _ (holding [uk,uv] (dictSet D uk uv)) _ _ _;exact kW iP)
theorem l7:∀{ds:List Mine.D}{x x':aH},x.flat=true->fP x ds=some x'->x'.flat=true
 | [],x,x',hx,e=>by cases e;exact hx
 |d::ds,x,x',hx,e=>by
  obtain⟨kv,e0,e⟩:=bS e;obtain⟨x₁,e1,e2⟩:=bS e;refine l7 ?_ e2;clear e hx;cases x<;>first |exact aK e1 |skip
  ·clear e2;obtain⟨kk,_,rfl⟩:=mS e1;rfl
  ·clear e2;obtain⟨kk,_,rfl⟩:=mS e1;rfl
set_option tactic.hygienic true in
theorem qP(h:mE x=true):rX x<=0/\x.flat=true:=by
 cases x<;>first |cases h |skip
 ·rename_i t l;cases l<;>first |exact⟨Nat.le_refl _,rfl⟩ |cases h
 ·rename_i l;cases l<;>first |exact⟨Nat.le_refl _,rfl⟩ |cases h
theorem Q6:EN Fa N (.type "dict") (gw m x₀):=λ{A s objs F ρ X Q E v u} R X' S w P=>P.bx λl hl P=>P.bz.2.bx λx hx P9=>(w.lst hl).rec λa vs ep eu ha r=>by
 obtain⟨h0,hz⟩:=bA P.bz.1;obtain⟨z0,fl0⟩:=qP h0;clear w;subst eu;refine callType_codes (Q₁:=λobj s₁=>obj= .ref s.heap.objs.size/\s₁={s with heap:=s.heap.push {cls:= .type "dict",data:= .dict #[]}}) PySem.F.kt_called_dict (PySem.F.kt_typeCall_dict_1 _) PySem.F.entry_dict_init (kt_code_dict_new _ ⟨rfl,rfl⟩) ?_
 rintro obj s₁ ⟨rfl,rfl⟩
 have S0:=S.cR (o:=dictOf [] 0) rfl;have ZC:({s with heap:=s.heap.push {cls:= .type "dict",data:= .dict #[]}}:Shared).TypeIs (.ref s.heap.objs.size) "dict":=⟨_,oU _ rfl,rfl⟩;refine⟨ZC,PySem.F.args_dict_init_2 _ _, ?_⟩;unfold Builtin.«dict.__init__»;refine bf ?_;unfold Builtin.Dict.selfAndRest;refine bf (wpAny_notOrdered_dict ZC ?_);show wpAny _ _ (pure (s.heap.objs.size,[Value.ref a])) _ _ _;refine dz ?_;show wpAny _ _ (Builtin.Dict.updateFrom "dict.__init__" s.heap.objs.size (.ref a) [] .none) _ _ _;unfold Builtin.Dict.updateFrom;refine bf (wpAny_typeOf (show({s with heap:=s.heap.push {cls:= .type "dict",data:= .dict #[]}}:Shared).TypeIs (.ref a) "list" from⟨_,S0.stays _ _ ha,rfl⟩) ?_);rw[bw (by decide)];refine bf (D4 (s:={s with heap:=s.heap.push {cls:= .type "dict",data:= .dict #[]}}) (S0.stays _ _ ha) R.1 λh₁ tk₁ hk₁=> ?_);rw[bw (show(none:Option Value).isNone=true from rfl)];refine bf (wpAny_rule ?_);have S1:SR G ah F ρ objs ((s.heap.objs.size,dictOf [] 0)::X) h₁:=S0.turn hk₁;refine bf (wpAny_pyIter_list (items:=vs.toArray) ⟨_,S1.stays _ _ ha,rfl,_,rfl⟩ (dz ⟨plainId_quiet mW _, ?_⟩));have S2:=(S1.cR (o:={cls:= .type "list_iterator",data:= .fields #[.ref a,rawInt 0]}) rfl).perm (List.Perm.swap _ (s.heap.objs.size,dictOf [] 0) X);exact vM (A:=A.in1) (R:=wants (λr s₂=>r=Value.none/\Q (Value.ref s.heap.objs.size) s₂) E) (wm G ah none a l vs ep _) R.1 (by rw[Around.in1_units,oS];exact eG (iR (by decide) _) R.units) ⟨ha,r⟩ (fk hz) l [] rfl _ _ _ x₀ _ _ S2 (qA h0) ⟨rfl,rfl⟩ z0 hx λh₂ tk₂ od' S4 o4=>
  ⟨rfl,wM (s:=s) (tk:=tk₂) (E:=E) S4 (Heap.SameBut.refl _ _) (S4.ext _ (.head _) (o4.exact _ (l7 fl0 hx))).1 o4 P9⟩
noncomputable def NB(kx vx:PySem.Expr)(env:Env)(D:Addr):Sem Unit:=do
 let kv <-eval kx env
 let vv <-holding [kv] (eval vx env)
 standAt {kx.pos with endLine:=vx.pos.endLine,endCol:=vx.pos.endCol}
 holding [kv,vv] (dictSet D kv vv)
noncomputable def Rc(G:Gd)(F:FZ)(D:Addr)(x:aH)(o:Obj):Prop:=OR G F D x o/\x.flat=true
noncomputable def Cu(x:aH)(o:az):aR V:=bx (JA x) λd=> .ok (.d d) o
noncomputable def WE(f f':DE)(x:aH)(loc:bL)(o:az):aR (aH×bL):=(f loc o).bind λk o=>(f' loc o).bind λv o=>bx (kM k) λk=>bx (kM v) λv=>bx (wC x (.d k) v) λx'=>bz (c6 (rX x)) (.ok (x',loc) o)
theorem TS(h:Q (.ref s.heap.objs.size) {s with heap:=s.heap.push (dictOf [] 0)}):wpAny (model PR G.w) A newDict Q E s:=wpAny_newObj_type h
theorem IX(hf:SE Fa N cx kx f)(hf':SE Fa N cx vx f'):Vd Fa N cx (Rc G) (NB kx vx cx.en) (WE f f'):=λA s loc objs F ρ X D x oD Q E Rm FX S L ha P=>
 bf (hf A s loc objs F ρ ((D,oD)::X) _ _ Rm (FX.cons _) S (L.cons _) (gZ.next P λuk k o₁ Jk uR nG JR f7 p7 S7 w7 P=>
 bf (kW (hf' A _ loc o₁ Jk uR ((D,oD)::X) _ _ Rm (FX.cons _) S7 ((L.mono f7 p7).cons _) (gZ.next P λuv v o₂ BW xZ zh Wu f8 p8 S8 w8 P=>
 bf (uo (kW (cA (C:=gZ G ah cx (Rc G) BW xZ X D _ Q) id P λk' hk P=>cA (C:=gZ G ah cx (Rc G) BW xZ X D _ Q) id P λv' hv P=>cA (C:=gZ G ah cx (Rc G) BW xZ X D _ Q) id P λx' hx P=>by
  obtain⟨hz,P9⟩:=ju (C:=gZ G ah cx (Rc G) BW xZ X D _ Q) id P;cases e_ hk;cases e_ hv;have o8:=ha.1.flat (a':=D) (f7.trans f8).1 x ha.2;exact AU (s:={s with heap:=zh,toks:=Wu}) (.set (eG (fN _ _) Rm.units)) S8.stays (S8.ext (D,oD) (.head _) (o8.exact _ ha.2)).1 o8 (w7.mono f8 p8) w8 hz hx λPI od' RM g9 r9 Xj=>
   P9 BW xZ X PI RM od' (Sub.refl _) (fc _) (XS.refl _ _) (SR.lX S8 Xj g9) (L.mono (f7.trans f8) (p7.trans p8)) ⟨r9,l7 (ds:=[.tup [k',v']]) ha.2 (by show(wC x (.d k') v').bind _=_;rw[hx];rfl)⟩))))))))
theorem F_:xP G ah (Rc G) Cu:=λ{F ρ X h D a oD v o o'} ar hs S e=>cA (C:=λr=>r= .ok v o') (λq=>by cases q) e λd hd e=>by
 cases e;have hF:=S.lC _ (.head _);exact⟨_,_,bM _ hF,fc _,S.xj (ar.1.exact _ ar.2),OR.JA hd hs (cj _ _ _) (ar.1.mono (bM _ hF))⟩
theorem So(a:aH)(o:az):dY (Cu a o):= .bx λZ=> .ok
theorem Ea(h0:mE x₀=true):z8 G (.DictComp kx vx [⟨tg,iter,ifs,0⟩] scope pos) tg ifs iter.pos (Rc G) (NB kx vx) x₀ (dictOf [] 0) newDict where
 turn it D env:=RG kx vx tg iter ifs scope pos it D env
 VE _ _ _ _:=rfl
 den _ _ _:=rfl
 start h0 h:=codeAny_compStart_dict h0 h
 new:=TS
 fresh:=rfl
 Wb _ _:=⟨qA h0,(qP h0).2⟩
 arm r s:=⟨r.1.flat s _ r.2,r.2⟩
end
theorem Gb(a b:List UInt8):(Builtin.Bytes.order a b== .lt)=decide (a < b):=by
 induction a generalizing b with
 |nil=>cases b<;>rfl
 |cons x a ih=>
  cases b with
  |nil=>rfl
  |cons y b=>
   rw[vS.mpr (List.cons_lt_cons_iff (a:=x) (b:=y) (l₁:=a) (l₂:=b))];unfold Builtin.Bytes.order
   by_cases h1:x < y
   ·rw[bw h1];exact(cM (.inl h1)).symm
   ·by_cases h2:y < x
    ·rw[aZ h1,bw h2];exact(fM λq=>q.elim h1 λq=>h1 (absurd h2 (q.1▸h1))).symm
    ·cases UInt8.le_antisymm (UInt8.not_lt.mp h2) (UInt8.not_lt.mp h1);rw[aZ h1,aZ h2,ih];exact vS.mpr ⟨λq=> .inr ⟨rfl,q⟩,λq=>q.elim (λq=>absurd q h1) (λZ=>Z.2)⟩
noncomputable abbrev Tw:PyProof.Rows.KeyKind where
 α:=Int
 blt a b:=decide (a < b)
 irrefl a:=fM (Int.lt_irrefl a)
 trans a b c h1 h2:=cM (Int.lt_trans (iD h1) (iD h2))
 negTrans a b c h:=by
  by_cases hab:a < b
  ·exact .inl (cM hab)
  ·exact .inr (cM (Int.lt_of_le_of_lt (Int.not_lt.mp hab) (iD h)))
 total a b h1 h2:=Int.le_antisymm (Int.not_lt.mp (of_decide_eq_false h2)) (Int.not_lt.mp (of_decide_eq_false h1))
 keyOf v:=match v with | .int x _=>some x |_=>none
 dflt:=0
noncomputable abbrev cP:PyProof.Rows.KeyKind where
 α:=List UInt8
 blt a b:=decide (a < b)
 irrefl a:=fM (List.lt_irrefl a)
 trans a b c h1 h2:=cM (List.lt_trans (iD h1) (iD h2))
 negTrans a b c h:=by
  by_cases hab:a < b
  ·exact .inl (cM hab)
  ·exact .inr (cM (List.lt_of_le_of_lt (List.not_lt.mp hab) (iD h)))
 total a b h1 h2:=List.le_antisymm (List.not_lt.mp (of_decide_eq_false h2)) (List.not_lt.mp (of_decide_eq_false h1))
 keyOf v:=match v with | .bytes x _=>some x.toList |_=>none
 dflt:=[]
theorem G7:Tw.OneLt:=λ{prog w A E s x y a b Q} ha hb h=>by
 cases x<;>first |exact aK ha |skip
 cases y<;>first |exact aK hb |skip
 cases ha;cases hb;exact oneLt_int h
set_option tactic.hygienic true in
theorem zb:cP.OneLt:=λ{prog w A E s x y a b Q} ha hb h=>by
 cases x<;>first |exact aK ha |skip
 rename_i x t;cases y<;>first |exact aK hb |skip
 rename_i y u;cases ha;cases hb;rw[oneLt'_eq];refine bf (wpAny_cRoomFor_byValue rfl ?_);refine bf (wpAny_callSpecialIfBound?_slot (nV s x t) jT (yb jT (nV s x t) mC ?_ (lO _ _)));show wpAny _ _ (isInstance (.bytes y u) (.type "bytes") >>= λr=>_) _ _ s;refine bf (wpAny_isInstance (nV s y u) PySem.F.sub_bytes_bytes ?_);refine dz ⟨_,rfl, ?_⟩;refine wpAny_truthy_bool ?_;show Q (Builtin.Bytes.order x.toList y.toList== .lt) s;rw[Gb];exact h
section
variable{γ:Type}(lt:γ->γ->Bool)
noncomputable def uG(x:γ):List γ->List γ
 | []=>[x]
 |y::r=>if lt y x=true then y::uG x r else x::y::r
noncomputable def gH:List γ->List γ
 | []=>[]
 |x::r=>uG lt x (gH r)
variable{lt}
theorem Hr{x y:γ}{r:List γ}(h:lt y x=true):uG lt x (y::r)=y::uG lt x r:=bw h
theorem Hs{x y:γ}{r:List γ}(h:¬lt y x=true):uG lt x (y::r)=x::y::r:=aZ h
theorem qw(x:γ):∀l,(uG lt x l).Perm (x::l)
 | []=>List.Perm.refl _
 |y::r=>by
  by_cases h:lt y x=true
  ·exact(Hr h).symm▸((qw x r).cons y).trans (List.Perm.swap x y r)
  ·exact(Hs h).symm▸List.Perm.refl _
theorem cu:∀l,(gH lt l).Perm l
 | []=>List.Perm.refl _
 |x::r=>(qw x _).trans ((cu r).cons x)
noncomputable abbrev z7(lt:γ->γ->Bool)(l:List γ):Prop:=l.Pairwise λa b=>lt b a=false
theorem zd(IB:∀a b,lt a b=true->lt b a=false)(tr:∀a b c,lt b a=false->lt c b=false->lt c a=false)(x:γ):∀{l:List γ},z7 lt l->z7 lt (uG lt x l)
 | [],_=>List.pairwise_singleton _ _
 |y::r,p=>by
  obtain⟨p1,p2⟩:=List.pairwise_cons.mp p
  by_cases q:lt y x=true
  ·refine(Hr q).symm▸List.pairwise_cons.mpr ⟨λz hz=> ?_,zd IB tr x p2⟩;rcases cN.mp ((qw x r).mem_iff.mp hz)with rfl |hz
   ·exact IB _ _ q
   ·exact p1 z hz
  ·have q':=Bool.eq_false_iff.mpr q;refine(Hs q).symm▸List.pairwise_cons.mpr ⟨λz hz=> ?_,p⟩;clear q p;rcases cN.mp hz with rfl |hz
   ·exact q'
   ·exact tr _ _ _ q' (p1 z hz)
theorem qf(IB:∀a b,lt a b=true->lt b a=false)(tr:∀a b c,lt b a=false->lt c b=false->lt c a=false):∀l:List γ,z7 lt (gH lt l)
 | []=>List.Pairwise.nil
 |x::r=>zd IB tr x (qf IB tr r)
end
noncomputable abbrev Aj(κ:PyProof.Rows.KeyKind)(key:D->κ.α)(a b:D):Bool:=κ.blt (key a) (key b)
theorem Cc{key:D->κ.α}(inj:∀a ∈ l,∀b ∈ l,key a=key b->a=b)(p:l'.Perm l)(s:z7 (Aj κ key) l'):l'=gH (Aj κ key) l:=by
 refine List.Perm.eq_of_pairwise (λa b ha hb h1 h2=>inj a (p.mem_iff.mp ha) b ((cu l).mem_iff.mp hb) (κ.total _ _ h2 h1)) s (qf (λa b h=> ?_) (λa b c h1 h2=> ?_) l) (p.trans (cu l).symm)
 ·cases q:Aj κ key b a with
  |false=>exact q
  |true=>have:=κ.trans _ _ _ h q;rw[κ.irrefl]at this;cases this
 ·cases q:Aj κ key c a with
  |false=>exact q
  |true=>exact((κ.negTrans _ (key b) _ q).elim (λh=>by rw[show κ.blt (key c) (key b)=false from h2]at h;cases h) λh=>by rw[show κ.blt (key b) (key a)=false from h1]at h;cases h)
structure ED where
 κ:PyProof.Rows.KeyKind
 one:κ.OneLt
 val:D->Option κ.α
 of:∀{G:Gd}{F:FZ}{d:D}{v:Value}{a:κ.α},val d=some a->VR G F d v->κ.keyOf v=some a
 inj:∀{d e:D}{a:κ.α},val d=some a->val e=some a->d=e
 kk:∀{G:Gd}{F:FZ}{ds:List D}{v₁ v₂:Value}{rest:List Value},(∀d ∈ ds,(val d).isSome=true)->cG G F ds (v₁::v₂::rest)->keyKind' (v₁::v₂::rest).toArray=pure oneType'
noncomputable def ED.key(K:ED)(d:D):K.κ.α:=(K.val d).getD K.κ.dflt
theorem ED.keyOf(K:ED)(h:(K.val d).isSome=true)(w:VR G F d v):K.κ.keyOf v=some (K.key d):=by
 obtain⟨a,ha⟩:=kq.mp h;rw[K.of ha w,ED.key,ha];rfl
section
variable{G:Gd}{F:FZ}
theorem Al.Pn{p:α->Prop}{q:β->Prop}(al:Al R l m)(hp:∀x ∈ l,p x)(k:∀x y,R x y->p x->q y):∀y ∈ m,q y:=λy hy=>let⟨x,hx,r⟩:=al.right y hy;k x y r (hp x hx)
theorem sZ:∀{vs:List Value},(∀v ∈ vs,∃i t,v= .int i t)->∃ns,IntsAre vs ns
 | [],_=>⟨[], .nil⟩
 |v::vs,h=>by
  obtain⟨i,t,rfl⟩:=h _ (.head _);obtain⟨ns,q⟩:=sZ λv hv=>h v (.tail _ hv);exact⟨_, .cons i t q⟩
theorem rT:∀{vs:List Value},(∀v ∈ vs,∃i t,v= .str i t)->∃ns,StrsAre vs ns
 | [],_=>⟨[], .nil⟩
 |v::vs,h=>by
  obtain⟨i,t,rfl⟩:=h _ (.head _);obtain⟨ns,q⟩:=rT λv hv=>h v (.tail _ hv);exact⟨_, .cons i t q⟩
theorem kD:∀{vs:List Value},(∀v ∈ vs,∃b t,v= .bytes b t)->vs.mapM firstOfTuple'=pure (vs.map λZ=>none)
 | [],_=>by simp
 |v::vs,h=>by
  obtain⟨b,t,rfl⟩:=h v (.head _);rw[List.mapM_cons,show firstOfTuple' (.bytes b t)=pure none from rfl,kD λv hv=>h v (.tail _ hv)];simp
theorem jK:∀{vs:List Value},(∀v ∈ vs,∃b t,v= .bytes b t)->vs.mapM typeOf=pure (vs.map λZ=>Value.type "bytes")
 | [],_=>by simp
 |v::vs,h=>by
  obtain⟨b,t,rfl⟩:=h v (.head _);rw[List.mapM_cons,jK λv hv=>h v (.tail _ hv)];show(pure (Value.type "bytes") >>= λb=>pure _ >>= λbs=>pure (b::bs))=_;simp
theorem uE(hS:∀v ∈ v₁::v₂::vs,∃b t,v= .bytes b t):keyKind' (v₁::v₂::vs).toArray=pure oneType':=by
 rw[keyKind'_eq,List.mapM_toArray,kD hS];simp only[map_pure,pure_bind];rw[aZ (by simp),if_neg (by simp)];rw[oneTypeOnly'_eq,List.mapM_toArray,jK hS];simp only[map_pure,pure_bind];have hall:((List.map (λZ=>Value.type "bytes") (v₁::v₂::vs)).toArray.all λx=>x==Value.type "bytes")=true:=by
  simp only[List.all_toArray,List.all_map,List.all_eq_true];intro _ _
  rfl
 have h0:(List.map (λZ=>Value.type "bytes") (v₁::v₂::vs)).toArray[0]? =some (Value.type "bytes"):=by simp
 rw[h0];simp only[hall,if_true,pure_bind,Option.isSome_some]
end
noncomputable def mh:ED where
 κ:=Tw
 one:=G7
 val:=D.int?
 of h w:=by cases iB h;obtain⟨t,rfl⟩:=w;rfl
 inj h h':=(iB h).trans (iB h').symm
 kk h r:=(sZ (r.al.Pn h λx y r p=>by obtain⟨i,hi⟩:=kq.mp p;cases iB hi;obtain⟨t,rfl⟩:=r;exact⟨_,_,rfl⟩)).elim λ_ q=>keyKind_ints q
noncomputable def CG:ED where
 κ:=PyProof.Rows.strKind
 one:=strKind_oneLt
 val d:=d.DJ.map λs=>s.cps.toList
 of h0 w:=by obtain⟨i,h,rfl⟩:=mS h0;cases k_ h;obtain⟨t,rfl⟩:=w;rfl
 inj h0 h0':=by
  obtain⟨⟨i⟩,h,rfl⟩:=mS h0;obtain⟨⟨j⟩,h',e⟩:=mS h0';cases k_ h;cases k_ h';cases Array.toList_inj.mp e;rfl
 kk h r:=(rT (r.al.Pn h λx y r p=>by obtain⟨i,hi⟩:=kq.mp p;obtain⟨i,h,rfl⟩:=mS hi;cases k_ h;obtain⟨t,rfl⟩:=r;exact⟨_,_,rfl⟩)).elim λ_ q=>keyKind_strs q
noncomputable def qN:ED where
 κ:=cP
 one:=zb
 val:=D.pQ
 of h w:=by cases fY h;obtain⟨t,rfl⟩:=w;rfl
 inj h h':=(fY h).trans (fY h').symm
 kk h r:=uE (r.al.Pn h λx y r p=>by obtain⟨i,hi⟩:=kq.mp p;cases fY hi;obtain⟨t,rfl⟩:=r;exact⟨_,_,rfl⟩)
section
variable{G:Gd}{ah:Heap}{Fa:aP G ah}{N M:Nat}{F:FZ}{ρ:List Addr}{objs:az}{X:List (Addr×Obj)}{h:Heap}{cx:Cx}{dec:Addr}
theorem Al.Kn{ds:List α}(r:Al R ds vs)(p:out.Perm vs):∃ds',ds'.Perm ds/\Al R ds' out:=by
 induction p generalizing ds with
 |nil=>exact⟨ds, .refl _,r⟩
 |cons x p ih=>
  cases r with
  |cons w r=>obtain⟨ds',p',r'⟩:=ih r;exact⟨_::ds',p'.cons _, .cons w r'⟩
 |swap x y l=>
  cases r with
  |cons w r=>cases r with
   |cons w' r=>exact⟨_, .swap _ _ _, .cons w' (.cons w r)⟩
 |trans p q ih1 ih2=>
  obtain⟨d1,p1,r1⟩:=ih2 r;obtain⟨d2,p2,r2⟩:=ih1 r1;exact⟨d2,p2.trans p1,r2⟩
theorem Al.at(al:Al R ds vs):∀{i:Nat}(h:i < ds.length)(h':i < vs.length),R ds[i] vs[i]:=by
 induction al with
 |nil=>exact λ{i} h=>absurd h (Nat.not_lt_zero _)
 |cons w _ ih=>
  intro i h h';cases i with
  |zero=>exact w
  |succ i=>exact ih (vY h) (vY h')
theorem ED.sorts(K:ED){R:D->Keyed->Prop}{key:D->K.κ.α}(al:Al R ds kvs)(hk:∀d kv,R d kv->K.κ.keyOf kv.1=some (key d))(inj:∀a ∈ ds,∀b ∈ ds,key a=key b->a=b)(hp:xs.toList.Perm kvs)(hs:SortedToK K.κ xs xs.size):Al R (gH (Aj K.κ key) ds) xs.toList:=by
 obtain⟨ds',p3,r3⟩:=al.Kn hp;rw[<-Cc inj p3 ?_]
 ·exact r3
 rw[z7,Dw];intro i j hi hj hij;have hsz:xs.size=ds'.length:=r3.length;have kk:∀k(hk':k < ds'.length),KK K.κ xs k=key ds'[k]:=λk hk'=>by
  have hx:k < xs.size:=hsz▸hk';unfold KK;rw[getElem?_pos xs k hx];show(K.κ.keyOf xs[k].1).getD K.κ.dflt=_;rw[show K.κ.keyOf xs[k].1=_ from hk _ _ (r3.at hk' (show k < xs.toList.length from hx))];rfl
 have h1:=hs i j (jz hij) (hsz▸hj);rw[kk i hi,kk j hj]at h1;exact h1
theorem ES{vs:List β}(al:Al R ds vs):Al (λd(p:β×β)=>p.1=p.2/\R d p.1) ds (vs.zip vs):=al.rec .nil λw Z ih=> .cons ⟨rfl,w⟩ ih
theorem Al.Y4(al:Al R ds vs)(k:∀a b,R a b->R' a (f b)):Al R' ds (vs.map f):=al.rec .nil λw Z ih=> .cons (k _ _ w) ih
noncomputable abbrev Ra(w:World)(s:Shared)(r:Value)(P:List Value->Prop):Prop:=∀(A:Around)(E:Value->Shared->Prop)(Q':List Value->Shared->Prop),A.handled=none->(∀h' tk vs,(∀b o,s.heap.get? b=some o->h'.get? b=some o)->s.heap.objs.size<=h'.objs.size->P vs->Q' vs {s with heap:=h',toks:=tk})->wpAny (model PR w) A (collect r) Q' E s
theorem yt{A:Around}{s:Shared}(K:ED)(HE:Ra G.w s r (cG G F ds))
  (hA:A.handled=none)(hc:∀d ∈ ds,(K.val d).isSome=true)(h64:ds.length < 64)
  (h:∀a out ep h' tk,(∀b o,s.heap.get? b=some o->h'.get? b=some o)->s.heap.objs.size<=a->h'.get? a=some (dF out ep)->cG G F (gH (Aj K.κ K.key) ds) out->Q (.ref a) {s with heap:=h',toks:=tk}):
  wpAny (model PR G.w) A (call (.builtin "sorted") [r]) Q E s:=by
 refine Calls.call_function_entry kind_sorted plain_sorted entry_sorted (args_sorted1 _) ?_;unfold Builtin.«sorted»;refine bf (m:=checkCount "sorted" 1 1 _) (dz ?_);refine bf (HE _ _ _ hA λh₁ tk vs k1 k0 rv=> ?_);have hl:vs.length=ds.length:=rv.length;have hz:vs.length < 64:=hl▸h64;have h16:vs.length<=sizeLine:=cS (jz hz) (by decide);refine bf (wpAny_newList ?_ h16);have Xm:(h₁.push (seqObj "list" vs.toArray 0)).get? h₁.objs.size=some (seqObj "list" vs.toArray 0):=oU _ rfl;show wpAny _ _ _ _ _ {s with heap:=h₁.push (seqObj "list" vs.toArray 0),toks:=tk};have al:=ES rv.al;have hkey:∀d(kv:Keyed),d ∈ ds->kv.1=kv.2/\VR G F d kv.1->K.κ.keyOf kv.1=some (K.key d):=λd kv hd r=>K.keyOf (hc d hd) r.2;refine bf (kW (yb slot_list_sort ⟨_,Xm,rfl⟩ entry_list_sort (list_sort_treeK K.one Xm (λp hp=> ?_) (λv₁ v₂ rest e=>K.kk hc (e▸rv)) hz λst' a1 a2=>⟨_,rfl, ?_⟩) (args_list_sort _)))
 ·rw[pairsOf_toList]at hp;obtain⟨d,hd,w⟩:=al.right p hp;exact⟨_,hkey d p hd w⟩
 refine dz ⟨_,rfl, ?_⟩;obtain⟨ep,he⟩:=sortedHeap_at (out:=((arrOf st').map (λZ=>Z.2))) Xm;have hpl:(arrOf st').toList.Perm (vs.zip vs):=by rw[<-pairsOf_toList];exact Array.perm_iff_toList_perm.mp a1
 have al':=K.sorts (R:=λd kv=>d ∈ ds/\kv.1=kv.2/\VR G F d kv.1) (key:=K.key) (kvs:=vs.zip vs) (ds:=ds) (by
  have:∀{l:List D}{m:List Keyed},Al (λd(p:Keyed)=>p.1=p.2/\VR G F d p.1) l m->(∀d ∈ l,d ∈ ds)->Al (λd kv=>d ∈ ds/\kv.1=kv.2/\VR G F d kv.1) l m:=λa=>a.rec (λZ=> .nil) λw Z ih hm=> .cons ⟨hm _ (.head _),w⟩ (ih λd hd=>hm d (.tail _ hd));exact this al λd hd=>hd) (λd kv r=>hkey d kv r.1 r.2) (λa ha b hb e=>by
   obtain⟨x,hx⟩:=kq.mp (hc a ha);obtain⟨y,hy⟩:=kq.mp (hc b hb);unfold ED.key at e;rw[hx,hy]at e;cases(show x=y from e);exact K.inj hx hy) hpl (by rw[a1.size_eq];exact a2)
 refine h h₁.objs.size ((arrOf st').map (λZ=>Z.2)).toList ep _ tk (λb o e=> ?_) k0 he (by rw[Array.toList_map];exact(al'.Y4 λa b r=>r.2.1▸r.2.2).JM);have hb:=fL (k1 b o e);rw[sortedHeap_old (jc hb) (by rw[size_push'];exact Nat.lt_succ_of_lt hb)];exact jd _ (k1 b o e)
theorem KV.key'(al:Al (Vo G F) l kvs):∀{ks:List Value},ks.length=kvs.length->(∀(i:Nat)(v:Value),ks[i]? =some v->∃k x,kvs[i]? =some (k,x)/\(cJ G.w t).is k v=true)->cG G F (l.map λp=>cQ p.1) ks:=by
 induction al with
 |nil=>exact λ{ks} hl Z=>List.eq_nil_of_length_eq_zero hl
 |cons r _ ih=>
  intro ks hl hk;cases ks with
  |nil=>cases hl
  |cons v ks=>
   obtain⟨k,x,e,w⟩:=hk 0 v rfl;cases e;exact⟨v,ks,rfl,(congrArg (λk=>VR G F (cQ k) v) r.1).mp (G5 w),ih (Nat.succ.inj hl) λi u hu=>hk (i+1) u hu⟩
theorem xC(lo:(d==sysModules)=false)(hd:s.heap.DictOf (cJ G.w t) d kvs)(kv:KV G F l kvs)(hn:l.length<=sizeLine):Ra G.w s (.ref d) (cG G F (l.map λp=>cQ p.1)):=λA E Q hA hQ=>by
 obtain⟨ep,hm⟩:=hd.dictAt;have hlt:=hm.lt_size;unfold collect;refine bf (wpAny_runValue (codeAny_builtin PySem.F.entry_proto_collect ?_));rw[Au PySem.F.plain_proto_collect _];show wpAny _ A.in1 (newList [] >>= λl=>again (.builtin "list.__iadd__" ⟨[l, .ref d],[]⟩)) _ _ s;refine bf (wpAny_newObj_type ?_);refine dz ⟨plainId_quiet PySem.F.plain_list_iadd _,codeAny_builtin PySem.F.entry_list_iadd ?_⟩;rw[Au PySem.F.plain_list_iadd _];show wpAny _ A.in1 (Builtin.List.listExtendWith (.ref s.heap.objs.size) (.ref d) (.ref s.heap.objs.size)) _ _ _;have hS:(s.heap.push {cls:= .type "list",data:= .seq ([]:List Value).toArray}).get? s.heap.objs.size=some {cls:= .type "list",data:= .seq #[] 0}:=oU _ rfl;have hd':(s.heap.push {cls:= .type "list",data:= .seq ([]:List Value).toArray}).DictAt (cJ G.w t) d kvs ep:=hm.at' λo e=>jd _ e;refine kdl_extend (R:=wants (λv s'=>wpAny (model PR G.w) A (match v with | .ref a=>(do match(<-load a).data with | .seq xs _=>pure xs.toList |_=>unsupported "internal:collect") |_=>unsupported "internal:collect") Q E s') E) (prog:=PR) (w:=G.w) (s:={s with heap:=s.heap.push {cls:= .type "list",data:= .seq ([]:List Value).toArray}}) (kdl_dict (knd:=cJ G.w t) (kvs:=kvs) (ep:=ep) lo) hA hd' s.heap.objs.size (um hlt) (um hlt) _ 0 hS (λh' tk acc' c' hk hS' hacc=> ?_) (by rw[kv.length];exact hn);show wpAny _ A (load s.heap.objs.size >>= _) _ _ {s with heap:=h',toks:=tk};refine bf (wpAny_load hS' ?_);exact dz (hQ h' tk acc'.toList (λb o e=>hk b o (jc (fL e)) (jd _ e)) (jz (fL hS')) (KV.key' (t:=t) kv.al hacc.1 λi v hv=>hacc.2 i v (by rw[<-Array.getElem?_toList];exact hv)))
noncomputable def jf(l:List D)(o:az):aR V:=bz (Nat.blt l.length 64) (if(l.all λd=>d.int?.isSome)=true then Cr o (.list (gH (Aj mh.κ mh.key) l))else
 if(l.all λd=>(CG.val d).isSome)=true then Cr o (.list (gH (Aj CG.κ CG.key) l))else bz (l.all λd=>d.pQ.isSome) (Cr o (.list (gH (Aj qN.κ qN.key) l))))
noncomputable def c_(v:V)(o:az):aR V:=alt (bU o v) (λl=>jf l o) (bx (cH o v) λtl=>jf (tl.2.map λp=>cQ p.1) o)
theorem rW(S:SR G ah F ρ objs X s.heap)(HE:ds.length<=sizeLine->Ra G.w s r (cG G F ds))(hA:A.handled=none)(P:aS Fa (WR G) A F ρ X s Q E (jf ds objs)):wpAny (model PR G.w) A (call (.builtin "sorted") [r]) Q E s:=by
 obtain⟨h64,P⟩:=P.bz;have h64:ds.length < 64:=g7 h64;have HE:=HE (cS (jz h64) (by decide));have go:∀(K:ED),(ds.all λd=>(K.val d).isSome)=true->aS Fa (WR G) A F ρ X s Q E (Cr objs (.list (gH (Aj K.κ K.key) ds)))->wpAny (model PR G.w) A (call (.builtin "sorted") [r]) Q E s:=λK hc P=>yt K HE hA (cZ.mp hc) h64 λa out ep h' tk hk ha hg rv=>P _ _ ρ h' tk (bM (dF out ep) (S.xr ha)) (fc _) ((S.turn hk).freeze hg (S.xr ha) (S.Eg ha) (S.pH ha)) ⟨_,out,ep,rfl,cj _ _ _,rv.mono (bM _ (S.xr ha))⟩;have P:aS Fa (WR G) A F ρ X s Q E (if _ then _ else if _ then _ else _):=P;split at P
 ·rename_i hc;exact go mh hc P
 ·split at P
  ·rename_i hc;exact go CG hc P
  ·exact go qN P.bz.1 P.bz.2
theorem Jm:EN Fa N (.builtin "sorted") c_:=λ{A s objs F ρ X Q E v u} R X' S w P=>P.alt
 (λl hl P=>(S.bU Fa w hl).rec λa vs ep e ha r=>by
  subst e;refine rW (ds:=l) S (λhn A E Q' hA hQ=>collect_list (vs:=vs) ⟨_,ha,rfl,_,rfl⟩ (hQ _ s.toks vs (λb o e=> ?_) (by rw[Heap.size_update,size_push'];exact oR _) r) (by rw[r.length];exact hn)) R.1 P;rw[Heap.get?_update_ne _ _ _ _ (jc (fL e))];exact jd _ e)
 λP=>P.bx λtl hl P=>(S.cH Fa w hl).rec λa kvs e na dA q nd=>by
  clear w;subst e;exact rW (ds:=tl.2.map λp=>cQ p.1) S (λhn=>xC na dA q (by rw[cO]at hn;exact hn)) R.1 P
end
section
variable{G:Gd}{ah:Heap}{Fa:aP G ah}{N:Nat}{cx:Cx}{F:FZ}{ρ:List Addr}{objs:az}{X:List (Addr×Obj)}{h h':Heap}
noncomputable abbrev Px(qual:Str)(params:Arguments)(body:PySem.Expr)(scope:Scope)(clos:List (Str×Addr))(pm cdv ctv:Value):Obj:=
 {cls:= .type "function",data:= .func (kla_fn "<lambda>" qual params body scope clos pm cdv ctv)}
theorem xN.bE(s:jF F F')(x:xN F q cv):xN F' q cv:=x.rec λc oc vs t a b d r=>⟨c,oc,vs,t,a,s _ _ b,d,r⟩
theorem xN.code(x:xN F qual cdv)(st:∀a o,F.1 a=some o->h.get? a=some o):h.CodeRec cdv qual:=x.rec λc oc vs t a b d r=>⟨c,oc,vs,t,a,st _ _ b,d,r⟩
theorem BH{pos pos':Pos}(hl:TriplesOk l)(e:codeAmong pos' (l++[rawInt pos.line,rawInt pos.col,cv'])=some cv):codeAmong pos' l=some cv\/cv=cv':=by
 fun_induction TriplesOk l with
 |case1=>
  simp only[List.nil_append,codeAmong,rawInt]at e;split at e
  ·cases e;exact .inr rfl
  ·cases e
 |case2 a' t' b' u' x' rest ih=>
  simp only[List.cons_append,codeAmong]at e⊢;split at e
  ·rename_i hc;rw[bw hc];exact .inl e
  ·rename_i hc;rw[aZ hc];exact ih hl e
 |case3 l h1 h2=>exact hl.elim
structure Dk(G:Gd)(ah:Heap)(cx:Cx)(params:Arguments)(j:Nat):Prop where
 def_:defaultsOf params cx.en=([],[])
 code:∃c,cx.en.code= .ref c/\CodeHd ah c (G.nt j)
 qual:cx.en.qual++"<lambda>"=G.qd j
 bt:∀bm ob,ob.cls= .type "module"->ah.get? bm=some ob->bm≠G.nt j
theorem CE(Fa:aP G ah){A:Around}{Q:Value->Shared->Prop}{E:Value->Shared->Prop}{params:Arguments}{body:PySem.Expr}{scope:Scope}{clos:List (Str×Addr)}{i j:Nat}
  (S:SR G ah F ρ objs X s.heap)(hg:cx.en.globals=mainGlobals)(z:Dk G ah cx params j)(hcl:closureFor scope cx.en=pure clos)(hi:objs[i]? =some (.tab j))
  (hQ:∀f pm cdv ctv F' h' tk,Sub F F'->SR G ah F' ρ objs X h'->F'.1 f=some (Px (G.qd j) params body scope clos pm cdv ctv)->xN F' (G.qd j) cdv->Q (.ref f) {s with heap:=h',toks:=tk}):
  wpAny (model PR G.w) A (eval (.Lambda params body scope pos) cx.en) Q E s:=by
 refine kla_eval z.def_ ?_;rw[z.qual];have nd:(aH.tab j)≠ .dead:=λq=>aH.noConfusion q;obtain⟨c,hcode,C⟩:=z.code;refine(S.obj i _ hi nd).rec λP op hP gP nP r=>r.rec λeP ps eo tt=> ?_;subst eP;subst eo;have T:=S.kY Fa;have VI:∀b o,ah.get? b=some o->s.heap.get? b=some o:=λb o e=>S.stays _ _ (S.base b o e);have C':=C.keeps VI;refine cps λPP kk=> ?_;obtain⟨bm,ob,b1,b2,b3,b4,b5,b6,b7⟩:=Fa.bmain;refine kk ?_;clear kk;have hb:s.heap.BuiltinsAt Fa.mg (G.nt j):=⟨bm,ob,b1,b2,b3,z.bt bm ob b5 b4,VI _ _ b4,b5,b6,b7⟩;have hgP:mainGlobals≠G.nt j:=λq=>by
  obtain⟨o,es,ep,e,hd,_⟩:=T.g;rw[q,gP]at e;cases e;cases hd
 have iP:∀{F':FZ}{h':Heap}{tk:Nat}{pm cdv ctv:Value},Sub F F'->SR G ah F' ρ objs X h'->xN F' (G.qd j) cdv->Q (.ref h'.objs.size) {s with heap:=h'.push (Px (G.qd j) params body scope clos pm cdv ctv),toks:=tk}:=λ{F' h' tk pm cdv ctv} f S' cf=>
  hQ _ pm cdv ctv _ _ tk (f.trans (bM _ S'.br)) (S'.oB rfl) (cj _ _ _) (cf.bE (bM _ S'.br).1)
 cases hf:codeAmong pos ps.toList with
 |some cv=>exact kla_makeFunctionHit (mg:=Fa.mg) hcl hg T.g hcode C' gP tt.1 hf hb λctv h' tk hk hsz=>iP (Sub.refl F) (S.turn hk) (tt.2 pos cv hf)
 |none=>
  refine kla_makeFunction (mg:=Fa.mg) hcl hg T.g hcode C' gP tt.1 hf hgP hb λc' ctv h' tk hx hge hlt hrec htb=> ?_;refine cps λPP kk=> ?_;obtain⟨c₂,oc,vs,t,e2,hoc,hd,hv⟩:=hrec;refine kk ?_;clear kk;cases e2;have nF:F.1 c'=none:=S.xr hge;have ne:∀{b:Addr}{o:Obj},s.heap.get? b=some o->b≠c':=λe q=>Nat.lt_irrefl _ (vV (q▸fL e) hge);have sb:Sub F (uB F c' oc):=bM oc nF;refine iP sb ⟨λa o e=>sb.1 _ _ (S.base a o e),λa o e=> ?_,S.len,λk x hk hxd=>(S.obj k x hk hxd).rec λb o g1 g2 g3 g4=> ?_,S.inj,λp hp=>⟨(S.jw p hp).1.rec λsl g gm=>⟨sl,hx _ _ (λq=>S.apart p hp i _ hi nd (q▸hP)) g,gm⟩,(iT F oc λq=>Nat.lt_irrefl _ (vV (q▸S.HX p hp) hge)).trans (S.lC p hp)⟩,S.apart,S.nodup⟩ ⟨c',oc,vs,t,rfl,cj _ _ _,hd,hv⟩
  ·by_cases q:a=c'
   ·clear sb ne nF hv t htb hlt hge hgP hb b7 b6 b5 b4 b3 b2 b1 ob bm C' VI T tt;subst q;rw[cj]at e;cases e;exact hoc
   ·rw[iT F oc q]at e;exact hx _ _ (λq'=>by subst q';rw[nP]at e;cases e) (S.stays a o e)
  ·have nb:(uB F c' oc).1 b=none:=(iT F oc (ne g2)).trans g3
   by_cases q:b=G.nt j
   ·clear g4 g3 g2 ne nF hoc hlt hge hx hf iP hgP hb b7 b6 b5 b4 b3 b2 b1 ob bm C' o VI T r nP gP C hcode c tk ctv hQ hcl z hg clos scope body params E Q A Fa;subst q;cases S.inj k i x _ _ hk hxd hi nd g1 hP;cases hi.symm.trans hk;refine⟨_,_,g1,htb,nb,rfl,_,rfl, ?_,λpos' cv hc=> ?_⟩
    ·rw[Array.toList_append];exact TriplesOk_snoc _ _ _ _ tt.1
    ·rw[Array.toList_append]at hc;rcases BH tt.1 hc with hc |rfl
     ·exact(tt.2 pos' cv hc).bE sb.1
     ·exact⟨c',oc,vs,t,rfl,cj _ _ _,hd,hv⟩
   ·exact⟨b,o,g1,hx _ _ q g2,nb,g4.mono sb⟩
noncomputable def yX(scope:Scope)(qual:Str)(L f:Addr)(cdv:Value)(clos:List (Str×Addr))(vis:Nat->Option Str):Cx:=⟨envX qual scope L f cdv clos,vis,[L]⟩
structure Dj(scope:Scope)(ps:List Str)(vis:Nat->Option Str):Prop where
 kind:scope.kind= .function
 gen:scope.isGenerator=false
 co:scope.isCoroutine=false
 qo:∀x ∈ scope.names,x.2≠ .cell
 WO:ps.Nodup
 pk:∀x ∈ ps,scope.names.lookup x=some .local
 inj:∀i j x,vis i=some x->vis j=some x->i=j
 names:∀i x,vis i=some x->(x==("__debug__":Str))=false/\(x==("__classdict__":Str))=false
inductive YL(G:Gd)(F:FZ)(ρ:List Addr)(X:List (Addr×Obj))(scope:Scope)(clos:List (Str×Addr))(binds:List (Str×Value))(x:Str)(v:V):Prop
 |own (k:scope.names.lookup x=some .local) (u:Value) (h:binds.reverse.lookup x=some u) (w:WR G F ρ v u)
 |free (k:scope.names.lookup x=some .free) (c:Addr) (o:Obj) (u:Value) (hc:clos.lookup x=some c) (hm:(c,o) ∈ X) (hd:o.data= .cell (some u)) (w:WR G F ρ v u)
noncomputable def Bc(o₀:az):aR V->aR V
 | .ok v o=>iP false o₀.length v o
 | .exc x o=> .exc x (o.take o₀.length)
 | .stuck=> .stuck
theorem yW
  (hf:F.1 f=some (Px qual params body scope clos pm cdv ctv))(hcd:xN F qual cdv)(ok:Dj scope ps vis)(cX':∀p ∈ clos,p.2 ∈ X.map (λZ=>Z.1))
  (hbind:bindArgs (kla_fn "<lambda>" qual params body scope clos pm cdv ctv) ⟨us,[]⟩=pure (ps.zip us))(hv:∀i x v,vis i=some x->loc[i]? =some (some v)->YL G F ρ X scope clos (ps.zip us) x v)
  (hbody:∀L,SE Fa N (yX scope qual L f cdv clos vis) body fe)(R:c8 A (N+1))(X':iO A X)(S:SR G ah F ρ objs X s.heap)
  (P:aS Fa (WR G) A F ρ X s Q E (Bc objs (fe loc objs))):wpAny (model PR G.w) A (call (.ref f) us) Q E s:=by
 have st:ah.StaysIn s.heap:=λb o e=>S.stays b o (S.base b o e);refine wpAny_call (kla_callFunE (eG (cS (fN _ _) (fN _ _)) R.2) (S.stays _ _ hf) rfl ok.co ok.gen rfl (hcd.code S.stays) ?_);rw[hbind];refine dz (wpAny_newFunctionEnv ok.qo (λy hy=>ok.pk _ (List.of_mem_zip hy).1) (λh₁ hns EJ=> ?_) ok.kind);have hk₁:∀b o,s.heap.get? b=some o->h₁.get? b=some o:=λb o e=>EJ.extBut b o (jc (fL e)) (jd _ e);refine⟨(Fa.vj.keeps st).keeps hk₁, ?_⟩;refine cps λPP kk=> ?_;obtain⟨oL,es,ep,g1,g2,g3,g4⟩:=hns;refine kk ?_;clear kk;have MO:∀vs,oL.data≠ .fields vs:=λvs q=>by rw[g2]at q;cases q
 have S3:SR G ah F ρ objs ((s.heap.objs.size,pq oL)::X) h₁:=(S.turn hk₁).CN (.mk g1 MO) S.br (S.Eg (Nat.le_refl _)) (S.pH (Nat.le_refl _));have hl:aW G F ρ (yX scope qual s.heap.objs.size f cdv clos vis) ((s.heap.objs.size,pq oL)::X) loc:=⟨λi x v hx hv'=>(hv i x v hx hv').rec (λk u hu w=>⟨u, .loc k (pq oL) es ep (.head _) g2 g3 ((g4 x).trans hu),w⟩) λk c o u hc hm hd w=>⟨u, .cell c o (.inr k) hc (.tail _ hm) hd,w⟩,
  ⟨pq oL,es,ep, .head _,g2,g3⟩,λy hy=>absurd rfl (ok.qo _ (bX hy)),λb hb=>by
   rcases cN.mp hb with q |q
   ·exact q▸ .head _
   ·obtain⟨p,hp,e⟩:=mM q;exact .tail _ (e▸cX' p hp)⟩
 refine kla_codeExpr (hbody s.heap.objs.size _ _ loc objs F ρ _ _ _ R.deep (X'.deep (Xc:=[]) ok.kind rfl (mZ MO)) S3 hl ?_);cases hr:fe loc objs with
 |stuck=>rw[hr]at P;exact P.elim
 |ok v o=>rw[hr]at P;exact λu F' ρ' h' tk f1 p1 S4 w4=>PX (s:=s) S P f1 p1 (S4.less (List.sublist_cons_self _ _)) w4
 |exc y o=>rw[hr]at P;exact λe F' ρ' h' tk f1 p1 fl=>fl.leave (s:=s) (E:=E) S p1 X' rfl (λp hp=> .tail _ hp) λh₂ f=>P e F' ρ h₂ tk f1 (fc _) f
end
noncomputable def Eb(d:D):Option (List UInt8):=(d.AB.bind AZ).bind λp=>p.1.pQ
noncomputable def lS(d:D):List UInt8:=(Eb d).getD []
noncomputable abbrev yw(l:List D):List D:=gH (Aj cP lS) l
section
variable{G:Gd}{ah:Heap}{Fa:aP G ah}{N M:Nat}{F:FZ}{ρ:List Addr}{objs:az}{X:List (Addr×Obj)}{h:Heap}{cx:Cx}{dec:Addr}
theorem Lk(h:Eb d=some b):∃v,d= .tup [.bytes b,v]:=by
 obtain⟨p,h1,h2⟩:=bS h;obtain⟨l,h3,h4⟩:=bS h1;rcases l with _ |⟨x,_ |⟨y,_ |_⟩⟩<;>first |exact aK h4 |skip
 clear h1;cases h4;exact⟨y,by rw[mQ h3,fY (show x.pQ=some b from h2)]⟩
theorem G4{l:List D}(nd:(l.map lS).Nodup):∀a ∈ l,∀b ∈ l,lS a=lS b->a=b:=by
 induction l with
 |nil=>exact λa ha=>nomatch ha
 |cons x l ih=>
  obtain⟨n1,n2⟩:=fU.mp nd;intro a ha b hb e;clear nd;rcases cN.mp ha with rfl |ma<;>rcases cN.mp hb with rfl |mb
  ·rfl
  ·exact(n1 (cX.mpr ⟨b,mb,e.symm⟩)).elim
  ·exact(n1 (cX.mpr ⟨a,ma,e⟩)).elim
  ·exact ih n2 a ma b mb e
inductive Jc(G:Gd)(ah:Heap)(F:FZ)(ρ:List Addr)(objs:az)(X:List (Addr×Obj))(s:Shared)(kS a:Addr)(e1:Nat)(ds:List D)(i:Nat):Shared->Prop
 |mk (F':FZ) (h':Heap) (tk:Nat) (us:List Value) (e:Nat) (f:Sub F F') (S:SR G ah F' ρ objs ((kS,dF us e)::(a,dF [] e1)::X) h') (ru:cG G F' ((ds.take i).map λd=> .bytes (lS d)) us):Jc G ah F ρ objs X s kS a e1 ds i {s with heap:=h',toks:=tk}
theorem ET(al:Al (VR G F) l vs):∀{us:List Value},cG G F (l.map λd=> .bytes (lS d)) us->Al (λd(kv:Keyed)=>VR G F (.bytes (lS d)) kv.1/\VR G F d kv.2) l (us.zip vs):=by
 induction al with
 |nil=>intro us r;cases r;exact .nil
 |cons w _ ih=>exact λr=>mK.rec (λu us' e w' r'=>by subst e;exact .cons ⟨w',w⟩ (ih r')) r
theorem AJ
  (S:SR G ah F ρ objs ((a,dF vs n)::X) s.heap)(rv:cG G F ds vs)(hk:∀d ∈ ds,(Eb d).isSome=true)(nd:(ds.map lS).Nodup)(h64:ds.length < 64)
  (turn:∀(F':FZ)(Y:List (Addr×Obj))(h':Heap)(tk:Nat)(d:D)(v:Value)(Q':Value->Shared->Prop)(E':Value->Shared->Prop),Sub F F'->SR G ah F' ρ objs (Y++X) h'->VR G F' d v->d ∈ ds->
   (∀u rJ h'' Ou,Sub F' rJ->SR G ah rJ ρ objs (Y++X) h''->VR G rJ (.bytes (lS d)) u->Q' u {s with heap:=h'',toks:=Ou})->wpAny (model PR G.w) A (call (.ref q) [v]) Q' E' {s with heap:=h',toks:=tk})
  (h:∀F' out e h' tk,Sub F F'->SR G ah F' ρ objs ((a,dF out e)::X) h'->cG G F' (yw ds) out->P (.done (.ret .none)) {s with heap:=h',toks:=tk}):
  wpAny (model PR G.w) A (ksk_tree a (.ref q) false) P E s:=by
 have Nh:vs.length=ds.length:=rv.length;have hz:vs.length<=sizeLine:=Nh▸cS (jz h64) (by decide);have ga:=(S.ext (a,_) (.head _)).1;refine bf (listItems_at ga rfl ?_);obtain⟨e1,g1⟩:=iG (λ_=> #[]) ga;have S1:=S.lX (ux s.heap a (Obj.mapSeq λ_=>(#[]:Array Value))) g1;refine bf (listUpdate_at ga rfl ?_ hz (pY _));refine bf (seqEpoch_at g1 rfl ?_);refine bf (wpAny_newTuple ?_ hz);refine bf (wpAny_newList ?_ (pY _));refine kW ?_;have S2:=(S1.push (seqObj "tuple" vs.toArray 0)).cR (o:=dF [] 0) rfl;generalize((s.heap.update a (Obj.mapSeq λ_=>(#[]:Array Value))).push (seqObj "tuple" vs.toArray 0)).objs.size=kS at S2;generalize((s.heap.update a (Obj.mapSeq λ_=>(#[]:Array Value))).push (seqObj "tuple" vs.toArray 0)).push (dF [] 0)=H at S2;refine(?_:wpAny _ _ (ksk_rest a (.ref q) false vs.toArray e1 (.ref kS)) _ _ {s with heap:=H});refine bf (wpAny_rule (bf ?_));rw[<-Array.forIn_toList];refine ksk_fold (M:=model PR G.w) (Jc G ah F ρ objs X s kS a e1 ds) vs 0 _ ⟨F,H,s.toks,[],0,Sub.refl F,S2,rfl⟩ ?_ ?_
 ·intro j x s' hx inv;rw[jQ]at inv⊢;refine inv.rec λF' h' tk us e f1 S3 ru=> ?_;have hj:j < ds.length:=by rw[<-Nh];exact(nc.mp hx).1
  obtain⟨x',hx',wv⟩:=(rv.mono f1).get (je hj);cases hx.symm.trans hx';refine bf (wpAny_attempt (turn F' [(kS,dF us e),(a,dF [] e1)] h' tk ds[j] x _ _ f1 S3 wv (List.getElem_mem hj) λu rJ h'' Ou f2 S4 wu=> ?_));have gk:=(S4.ext (kS,_) (.head _)).1;obtain⟨e',g'⟩:=iG (λZ=>Z.push u) gk;have Zw:us.length+1<=sizeLine:=by rw[ru.length,cO,List.length_take];exact cS (kX (cS (Nat.min_le_right _ _) (jz h64))) (by decide)
  refine bf (listUpdate_at gk rfl ?_ (Nat.le_of_succ_le Zw) (cS (jR (Array.size_push ..)) (Nat.le_succ_of_le Zw)));have S5:=S4.lX (ux h'' kS (Obj.mapSeq (λZ=>Z.push u))) g';rw[List.push_toArray]at S5;refine dz ⟨rfl,rJ,_,Ou,us++[u],e',f1.trans f2,S5, ?_⟩;rw[List.take_add_one,je hj,fZ];exact cG.append (l':=[.bytes (lS ds[j])]) ⟨u,[],rfl,wu,rfl⟩ (ru.mono f2)
 ·intro s' inv;rw[jQ]at inv;refine inv.rec λF' h' tk us e f1 S3 ru=> ?_;rw[Ay (jR Nh.symm)]at ru;have Hv:us.length=ds.length:=by rw[ru.length,cO]
  have gk:=(S3.ext (kS,_) (.head _)).1;refine bf (listItems_at gk rfl ?_);have al:=ET (rv.mono f1).al ru;have hkey:∀d(kv:Keyed),VR G F' (.bytes (lS d)) kv.1/\VR G F' d kv.2->cP.keyOf kv.1=some (lS d):=λd kv r=>qN.of (d:= .bytes (lS d)) rfl r.1;have tail:∀st:SortSt,(arrOf st).Perm (us.toArray.zip vs.toArray)->failedOf st=none->SortedToK cP (arrOf st) (arrOf st).size->wpAny (model PR G.w) A (ksk_tail a false e1 (.ref kS) st) P E {s with heap:=h',toks:=tk}:=λst hp hf hs=>by
   obtain⟨e2,g2⟩:=iG (λ_=> #[]) gk;have S5:=(S3.lX (ux h' kS (Obj.mapSeq λ_=>(#[]:Array Value))) g2).less (List.sublist_cons_self _ _);have g3:=(S5.ext (a,_) (.head _)).1;have hpl:(arrOf st).toList.Perm (us.zip vs):=by have:=Array.perm_iff_toList_perm.mp hp;rwa [Array.toList_zip]at this
   have al':=qN.sorts (R:=λd kv=>VR G F' (.bytes (lS d)) kv.1/\VR G F' d kv.2) (key:=lS) al hkey (G4 nd) hpl hs;have hsz:(arrOf st).size<=sizeLine:=by rw[show(arrOf st).size=(yw ds).length from al'.length,(cu ds).length_eq];exact cS (jz h64) (by decide)
   refine bf (listUpdate_at gk rfl ?_ (by rw[kj,Hv];exact cS (jz h64) (by decide)) (pY _));refine bf (wpAny_letGo ?_);refine bf (seqEpoch_at g3 rfl ?_);obtain⟨e4,g4⟩:=iG (λ_=>(arrOf st).map (λZ=>Z.2)) g3;refine bf (listUpdate_at g3 rfl ?_ (pY _) (by rw[aZ As,Array.size_map];exact Nat.le_succ_of_le hsz));refine hf.symm▸ ?_;simp only[bne_self_eq_false,Bool.false_eq_true,if_false];exact dz (h F' _ e4 _ tk f1 (S5.lX (ux _ a _) g4) (by rw[Array.toList_map];exact(al'.Y4 λa b r=>r.2).JM))
  have Wm:(us.toArray.zip vs.toArray).size=ds.length:=by rw[Array.size_zip,kj,kj,Hv,Nh,Nat.min_self]
  delta ksk_end;dsimp only[Bool.false_eq_true,if_false]
  by_cases h2:vs.toArray.size < 2
  ·rw[bw h2,bw h2];refine bf (dz ?_);rw[StateT.run_pure];refine bf (dz ?_);refine tail _ (Array.Perm.refl _) rfl λi j hij hj=> ?_;have hj:j < (us.toArray.zip vs.toArray).size:=hj;have h2:vs.length < 2:=h2;have:i=j:=by exact Nat.le_antisymm hij (cS (Nat.le_of_lt_succ (vV (Nat.lt_of_lt_of_eq hj (Wm.trans Nh.symm)) (Nat.le_of_lt_succ h2))) (pY i))
   subst this;exact KeyOrd.kle_refl _
  ·rw[aZ h2,aZ h2];have h2:¬vs.length < 2:=h2;clear gk S3;obtain⟨v₁,v₂,rest,rfl⟩:∃v₁ v₂ rest,us=v₁::v₂::rest:=by
    rcases us with _ |⟨v₁,_ |⟨v₂,rest⟩⟩
    ·exact absurd (by rw[Nh, <-Hv];exact(by decide:0 < 2)) h2
    ·exact absurd (by rw[Nh, <-Hv];exact(by decide:1 < 2)) h2
    ·exact⟨v₁,v₂,rest,rfl⟩
   refine(qN.kk (λd hd=>by obtain⟨x,_,rfl⟩:=mM hd;rfl) ru).symm▸ ?_;refine bf (dz ?_);refine bf (pW (wpS_sortRunsK (κ:=cP) zb (a₀:=(v₁::v₂::rest).toArray.zip vs.toArray) (st:=SortSt.mk' oneType' ((v₁::v₂::rest).toArray.zip vs.toArray) #[] 7 none)
    (Q:=λ_ st'=>(arrOf st').Perm ((v₁::v₂::rest).toArray.zip vs.toArray)/\failedOf st'=none/\SortedToK cP (arrOf st') ((v₁::v₂::rest).toArray.zip vs.toArray).size)
    (λp hp=>by rw[Array.toList_zip]at hp;obtain⟨d,_,w⟩:=al.right p hp;exact⟨_,hkey d p w⟩) ⟨Array.Perm.refl _,rfl,rfl,rfl⟩ (by rw[Wm];exact Nh▸Nat.le_of_not_lt h2) (by rw[Wm];exact h64) λst' a1 a2 a3=>⟨a1,a2,a3⟩) ?_ λ_ _ e=>e)
   rintro⟨⟨⟩,st'⟩ s' ⟨rfl,hp,hf,hs⟩
   exact tail st' hp hf (by rw[hp.size_eq];exact hs)
end
noncomputable def vC(o:az)(i j:Nat):Bool:=match o[i]? with
 |some (.tab k)=>k==j
 |_=>false
theorem zc(h:vC o i j=true):o[i]? =some (.tab j):=by
 unfold vC at h;cases e:o[i]? with
 |none=>rw[e]at h;cases h
 |some x=>
  rw[e]at h;clear e;cases x<;>first |cases h |skip
  exact congrArg (λk=>some (aH.tab k)) (eq_of_beq h)
noncomputable def J1(i j:Nat)(l:List D)(o:az):aR V:=bz (vC o i j&&Nat.blt l.length 64&&(l.all λd=>(Eb d).isSome)&&decide (l.map lS).Nodup) (.ok (.d (.list (yw l))) o)
noncomputable def NK:List V->Option V
 | [v]=>some v
 |_=>none
noncomputable def pJ(i j:Nat)(fs:ug):DE:=λloc o=>(fs loc o).bind λvs o=>bx (NK vs) λv=>bx (bU o v) λl=>J1 i j l o
section
variable{G:Gd}{ah:Heap}{Fa:aP G ah}{N M:Nat}{F:FZ}{ρ:List Addr}{objs:az}{X:List (Addr×Obj)}{h:Heap}{cx:Cx}{dec:Addr}
theorem BF(a v:Value):argsOk "sorted" ⟨[a],[("key",v)]⟩:=ksk_s1 a v
theorem iO.in1(h:iO A X):iO A.in1 X:=h.rec λl e r=>⟨l,e,r⟩
theorem iO.app'(h:iO A X)(Y:List (Addr×Obj)):iO A (Y++X):=h.app Y
theorem KZ(h:(Eb d).isSome=true):(aB aC (af 0) (ai (.int 0))) [some (.d d)] o= .ok (.d (.bytes (lS d))) o:=by
 obtain⟨b,hb⟩:=kq.mp h;obtain⟨v,rfl⟩:=Lk hb
 rfl
structure Jb(G:Gd)(ah:Heap)(Fa:aP G ah)(N:Nat)(cx:Cx)(params:Arguments)(body:PySem.Expr)(scope:Scope)(x:Str)(vis:Nat->Option Str)(j:Nat):Prop where
 at_:Dk G ah cx params j
 hcl:closureFor scope cx.en=pure []
 ok:Dj scope [x] vis
 oX:∀i y,vis i=some y->i=0/\y=x
 bind:∀pm cdv ctv u,bindArgs (kla_fn "<lambda>" (G.qd j) params body scope [] pm cdv ctv) ⟨[u],[]⟩=pure [(x,u)]
 hbody:∀L f cdv,SE Fa N (yX scope (G.qd j) L f cdv [] vis) body (aB aC (af 0) (ai (.int 0)))
theorem Ez(ok:CxOk cx)(z:Jb G ah Fa N cx params body scope x vis j)
  (hg:SG Fa cx fn (.builtin "sorted"))(ha:zW Fa (N+3) cx [e] fs)(he:starEach [e] cx.en=(false,eval e cx.en)::starEach [] cx.en)
  (hs:eval (.Call fn [e] [⟨some "key", .Lambda params body scope GN,kp⟩] pos) cx.en=(do callWith pos (<-eval fn cx.en) [] (backTo pos (starEach [e] cx.en)) (backToKw pos (keywordEach [⟨some "key", .Lambda params body scope GN,kp⟩] cx.en)))):
  SE Fa (N+3) cx (.Call fn [e] [⟨some "key", .Lambda params body scope GN,kp⟩] pos) (pJ i j fs):=λA s loc objs F ρ X Q E R X' S L P=>by
 rw[hs];refine bf (hg A s F ρ objs X _ E S ?_);refine callWith_of (P:=λZ=>True) (by rw[he];rfl) (λh X=>⟨.machine, .inr (.inl rfl),Looks.of_pure rfl⟩) (evalArgs_kw2 rfl (ha A s loc objs F ρ X _ E pos R X' S L (aS.next P λus vs o F' ρ' h' tk f1 p1 S1 w1 P1=>P1.bx λv hv P1=>P1.bx λl hl P8=> ?_)) he);refine cps λPP kk=> ?_;obtain⟨hz,P9⟩:=P8.bz;obtain⟨hz,hnd⟩:=bA hz;obtain⟨hz,hkk⟩:=bA hz;obtain⟨ht,h64⟩:=bA hz;refine kk ?_;clear kk;have h64:l.length < 64:=g7 h64;have hkk:=cZ.mp hkk;rcases vs with _ |⟨v',_ |_⟩<;>first |exact aK hv |skip
 cases hv;refine w1.rec λu us' e' wv e2=> ?_;subst e';cases e2;show wpAny _ _ (evalAll ((backToKw pos (keywordEach [⟨some "key", .Lambda params body scope GN,kp⟩] cx.en)).map (λZ=>Z.2))) _ _ _;refine kwAll_cons (CE Fa (s:={s with heap:=h',toks:=tk}) S1 ok.glob z.at_ z.hcl (zc ht) λq pm cdv ctv cK h₂ tk₂ f2 S2 gq hcd=>kwAll_nil ⟨trivial, ?_⟩);refine(S2.bU Fa (wv.mono f2 (fc _)) hl).rec λa vs ep e ga rv=> ?_;clear wv w1 f1 P S;subst e;have hlen:vs.length<=sizeLine:=by rw[rv.length];exact cS (jz h64) (by decide)
 show wpAny _ A (call (.builtin "sorted") [.ref a] [("key", .ref q)]) Q E _;refine call_function_entry_kw kind_sorted plain_sorted entry_sorted (BF _ _) ?_;unfold Builtin.«sorted»;refine bf (m:=checkCount "sorted" 1 1 _) (dz ?_);refine bf (collect_list (vs:=vs) ⟨_,ga,rfl,_,rfl⟩ ?_ hlen);refine bf (wpAny_newList ?_ hlen);have kk:∀b o,h₂.get? b=some o->((h₂.push (seqObj "list" #[] 0)).update h₂.objs.size (Obj.mapSeq (λZ=>Z++vs.toArray))).get? b=some o:=λb o e=>by
  rw[Heap.get?_update_ne _ _ _ _ (jc (fL e))];exact jd _ e
 have S3:=(S2.turn kk).cR (o:=dF vs 0) rfl;generalize((h₂.push (seqObj "list" #[] 0)).update h₂.objs.size (Obj.mapSeq (λZ=>Z++vs.toArray))).objs.size=I_ at S3;generalize((h₂.push (seqObj "list" #[] 0)).update h₂.objs.size (Obj.mapSeq (λZ=>Z++vs.toArray))).push (dF vs 0)=H at S3;show wpAny _ _ (holding [.ref I_] (call (.builtin "list.sort") [.ref I_] [("key", .ref q)]) >>= λZ=>ret (.ref I_)) _ _ {s with heap:=H,toks:=tk₂};refine bf (kW (wpAny_call_entry_kw slot_list_sort ⟨_,(S3.ext (I_,_) (.head _)).1,rfl⟩ entry_list_sort ?_ (ksk_l1 _ _)));rw[ksk_t1];refine AJ (s:={s with heap:=H,toks:=tk₂}) S3 rv hkk (iD hnd) h64 (λeY Y h₃ tk₃ d v Q' E' f3 S4 wd hd hQ=> ?_) λeY out e h₃ tk₃ f3 S4 ro=>⟨_,rfl,dz ⟨_,rfl,P9 _ _ ρ' h₃ tk₃ (f2.trans (f3.trans (bM (F:=eY) (dF out e) S4.Ac))) (fc _) S4.xj ⟨I_,out,e,rfl,cj _ _ _,ro.mono (bM _ S4.Ac)⟩⟩⟩;refine yW (N:=N) (ρ:=ρ') (loc:=[some (.d d)]) (s:={s with heap:=h₃,toks:=tk₃}) (f3.1 _ _ gq) (hcd.bE f3.1) z.ok (λp hp=>by cases hp) (z.bind pm cdv ctv v) (λi y w hy hw=> ?_) (λL=>z.hbody L _ _) R.in1.in1 ((X'.app Y).in1.in1) S4 ?_
 ·obtain⟨rfl,rfl⟩:=z.oX i y hy;cases hw;exact .own (z.ok.pk _ (.head _)) v (by rw[List.zip_cons_cons,List.zip_nil_left,List.reverse_singleton,lV,lQ]) wd
 ·rw[KZ (hkk d hd)];intro u eX ya h₄ tk₄ f4 p4 S5 w5;rw[List.take_length]at S5;cases p4.eq_of_length (by rw[S4.len,S5.len]);exact hQ u eX h₄ tk₄ f4 S5 w5
end
noncomputable def wW(f0:Value)(d:Addr)(i n ep:Nat)(ok ov:Value):Obj:={cls:= .type "dict_itemiterator",dict:=none,data:= .fields #[f0, .bool false, .ref d, .int i 0, .int n 0, .int ep 0,ok,ov],slots:= #[]}
noncomputable def rz(l:List (aG×D)):List V:=l.map λp=> .d (.tup [cQ p.1,p.2])
inductive QV(G:Gd)(t:KT)(l:List (aG×D))(I:Addr)(F:FZ)(k:Nat)(cz:List (Addr×Obj)):Prop
 |mk (ax:Addr) (es:List DictEntry) (ep:Nat) (ok ov:Value) (a:F.1 ax=some (dictOf es ep)) (b:ue G F t l es) (nd:(l.map (λZ=>Z.1)).Nodup) (e:cz=[(I,wW .none ax k l.length ep ok ov)])
section
variable{G:Gd}{ah:Heap}{Fa:aP G ah}{N:Nat}{cx:Cx}{F:FZ}{ρ:List Addr}{objs:az}{X:List (Addr×Obj)}{h h':Heap}
theorem cG.two(h1:VR G F a u)(h2:VR G F b v):cG G F [a,b] [u,v]:=⟨u,[v],rfl,h1,v,[],rfl,h2,rfl⟩
theorem D6(t:KT)(l:List (aG×D))(I:Addr)(elts:List PySem.Expr)(c:Nat)(pos:Pos):Rw G ah none (rz l) (.ref I) (.Tuple elts c pos) (λF Z k cz=>QV G t l I F k cz)where
 mono J s _:=J.rec λax es ep ok ov a b nd e=>⟨ax,es,ep,ok,ov,s.1 _ _ a,b.mono s,nd,e⟩
 next {A s objs F ρ k cz X v Q E} hh S J _ hv hQ:=J.rec λax es ep ok ov a b nd e=>by
  clear J;subst e;obtain⟨kvs,dA,q⟩:=ig (s:=s) (S.stays _ _ a) b nd;obtain⟨p,hd,rfl⟩:=mS ((gB ..).symm.trans hv);obtain⟨u,hu,w⟩:=q.key hd;have hI:=(S.ext (I,_) (.head _)).1;refine wpAny_pyNext_items_item (knd:=cJ G.w t) (i:=k) (ep:=ep) (by rw[q.length];exact hI) dA hu λkey h₁ hk hit hT hsz hkp=>hQ _ _ λQ' E' hq=> ?_;rw[q.length]at hit;refine wpAny_letOwnedTupleGo_items hit λh₂ Xp hs2=> ?_;have nT:s.heap.objs.size≠I:=um (fL hI);have S2:SR G ah F ρ objs ((I,wW .none ax (k+1) l.length ep key u)::X) h₂:=SR.Mw S (λb ob n e=>(hs2.2 b n).trans (hkp b ob n e)) Xp;have sb:=bM (F:=F) (fO [key,u] 0) S.br;have S3:=S2.freeze ((hs2.2 _ nT).trans hT) S.br (S.Eg (Nat.le_refl _)) λp hp q=>by
   rcases cN.mp hp with rfl |hp
   ·exact nT q.symm
   ·exact S.pH (Nat.le_refl _) p (.tail _ hp) q
  exact hq _ [(I,wW .none ax (k+1) l.length ep key u)] h₂ s.toks sb rfl ⟨ax,es,ep,key,u,sb.1 _ _ a,b.mono sb,nd,rfl⟩ S3 ⟨_,[key,u],0,rfl,cj _ _ _,cG.two (G5 hk) (w.mono sb)⟩
 done {A s objs F ρ k cz X Q E} hh S J _ hv hQ:=J.rec λax es ep ok ov a b nd e=>by
  clear J;subst e;obtain⟨kvs,dA,q⟩:=ig (s:=s) (S.stays _ _ a) b nd;have hI:=(S.ext (I,_) (.head _)).1;exact wpAny_pyNext_items_end (knd:=cJ G.w t) (i:=k) (ep:=ep) hh (by rw[q.length];exact hI) dA (Ax (by rw[q.length, <-cO (f:=λp:aG×D=>V.d (.tup [cQ p.1,p.2]))];exact Dy.mp hv)) λh₁ he=>hQ h₁ s.toks (SR.fall S λb ob n e=>he b ob n e)
 self {A s objs F ρ k cz X Q E} S J hQ:=J.rec λax es ep ok ov a b nd e=>by
  clear b a J;subst e;exact kcp_self (S.ext (I,_) (.head _)).1 hQ
noncomputable def D.H8:D->Option (KT×List (aG×D))
 | .dict t l=>some (t,l)
 |_=>Option.none
theorem Lu{d:D}(h:d.H8=some p):d= .dict p.1 p.2:=by cases d<;>first |exact aK h |(cases h;rfl)
noncomputable def qB(f:DE):DI:=λloc o=>(f loc o).bind λv o=>bx ((kM v).bind D.H8) λp=> .ok (rz p.2,none) o
theorem Jg(ho:SE Fa N cx ob f)
  (hs:eval (.Call (.Attribute ob "items" apos) [] [] pos) cx.en=(do
   let ov <-eval ob cx.en
   standAt apos.atName
   let(f,first) <-holding [ov] (getMethod ov "items" pl)
   callWith pos f first (backTo pos (starEach [] cx.en)) [])):Ma Fa N cx (.Call (.Attribute ob "items" apos) [] [] pos) (.Tuple elts c tp) (qB f):=
 λA s loc objs F ρ X Q E R X' S L P=>MethodCall_ (ho A s loc objs F ρ X _ E R X' S L (fB.next P λu v o F' ρ' h' tk f1 p1 S1 w1 P=>cA (C:=fB Fa (.Tuple elts c tp) A F' ρ' X {s with heap:=h',toks:=tk} Q E) id P λp hp P9=>by
  obtain⟨d,h1,h2⟩:=bS hp;clear hp;cases e_ h1;cases Lu h2;refine w1.rec λax es ep eu na nd ha r=> ?_;clear w1;subst eu;have hT:({s with heap:=h',toks:=tk}:Shared).TypeIs (.ref ax) "dict":=⟨_,S1.stays _ _ ha,rfl⟩;refine getMethod_builtin hT PySem.F.plainAttrs_dict PySem.F.slot_dict_items PySem.F.type_dict_items (λa e=>by cases e;exact⟨_,S1.stays _ _ ha,rfl⟩) ?_;refine callWith_of (P:=λZ=>True) rfl (λh X=>⟨.machine, .inr (.inl rfl),Looks.of_pure rfl⟩) (evalArgs_nil3 ⟨trivial, ?_⟩);obtain⟨kvs,dA,q⟩:=ig (s:={s with heap:=h',toks:=tk}) (S1.stays _ _ ha) r nd;refine call_meetsIn PySem.F.slot_dict_items hT PySem.F.entry_dict_items (PySem.F.args_dict_items_1 _) (meets_dict_items (cJ G.w p.1) ax na) ⟨⟨kvs,dA.dictOf⟩, ?_⟩;have S2:=S1.push {cls:= .type "dict_items",data:= .fields #[.ref ax]};refine wpAny_pyIter_items (knd:=cJ G.w p.1) ⟨_,oU _ rfl,rfl,rfl⟩ (dA.at' λo e=>jd _ e) ?_;have S3:=S2.cR (o:=wW .none ax 0 p.2.length ep .none .none) rfl;rw[q.length];exact P9 (.ref _) _ F' F' ρ' _ tk _ (Sub.refl _) (fc _) rfl S3 (D6 p.1 p.2 _ elts c tp) ⟨ax,es,ep, .none, .none,ha,r,nd,rfl⟩)) hs
end
section
variable{prog:Program}{w:World}{A:Around}{E:Value->Shared->Prop}{s:Shared}
theorem sM{items}(hit:s.heap.IsTupleIter it t i)(ht:s.heap.IsTuple t items)(hx:items[i]? =some x)
  (hQ:∀h',h'.IsTupleIter it t (i+1)->Heap.SameBut it s.heap h'->Q x {s with heap:=h'}):wpAny (model prog w) A (Builtin.SmallTypes.nextOf (.ref it)) Q E s:=by
 refine cps λPP kk=> ?_;obtain⟨o,ho,hc,hd⟩:=id hit;obtain⟨ol,Xl,_,nl,hdl⟩:=ht;refine kk ?_;clear kk;refine bf (wpAny_callSpecial?_slot (name:=Str.ofString "__next__") hit.typeIs JI
  (yb JI hit.typeIs PySem.F.entry_tuple_iterator_next ?_ (PySem.F.args_tuple_iterator_next_1 _)))
 show wpAny _ _ (field (.ref it) 0 >>= _) _ _ s;refine bf (nS ho hd (x:= .ref t) rfl ?_);show wpAny _ _ (if(Value.ref t==Value.none)=true then _ else _) _ _ s;rw[aZ (show¬((Value.ref t==Value.none)=true)from As)];show wpAny _ _ (field (.ref it) 1 >>= _) _ _ s;refine bf (nS ho hd (x:= .int i 0) rfl (bf (wpAny_seqItems Xl hdl ?_)));simp only[Int.toNat_natCast,hx];refine bf (wpAny_setField ho hd (by simp) (wpAny_pure ⟨x,rfl,wpAny_pure (hQ _ ?_ (Heap.SameBut.update ..))⟩));exact⟨_,Heap.get?_update_self _ ho (Obj.isFreed_of_fields (Obj.data_mapFields hd _)),(Obj.cls_mapFields ..).trans hc,by rw[Obj.data_mapFields hd];simp[rawInt]⟩
theorem sL{items}(hh:A.handled=none)(hit:s.heap.IsTupleIter it t i)(ht:s.heap.IsTuple t items)(hx:items[i]? =none)
  (hE:∀h' e,Heap.ExtBut it s.heap h'->(∃o,h'.get? e=some o/\o.cls= .type "StopIteration")->E (.ref e) {s with heap:=h'}):wpAny (model prog w) A (Builtin.SmallTypes.nextOf (.ref it)) Q E s:=by
 refine cps λPP kk=> ?_;obtain⟨o,ho,hc,hd⟩:=id hit;obtain⟨ol,Xl,_,nl,hdl⟩:=ht;refine kk ?_;clear kk;refine bf (wpAny_callSpecial?_slot (name:=Str.ofString "__next__") hit.typeIs JI
  (yb JI hit.typeIs PySem.F.entry_tuple_iterator_next ?_ (PySem.F.args_tuple_iterator_next_1 _)))
 show wpAny _ _ (field (.ref it) 0 >>= _) _ _ s;refine bf (nS ho hd (x:= .ref t) rfl ?_);show wpAny _ _ (if(Value.ref t==Value.none)=true then _ else _) _ _ s;rw[aZ (show¬((Value.ref t==Value.none)=true)from As)];show wpAny _ _ (field (.ref it) 1 >>= _) _ _ s;refine bf (nS ho hd (x:= .int i 0) rfl (bf (wpAny_seqItems Xl hdl ?_)));simp only[Int.toNat_natCast,hx];refine bf (wpAny_rule (bf (wpAny_setField ho hd (by simp) ?_)));show wpAny _ _ (newExc (.type "StopIteration") [] >>= _) _ _ _;refine bf ?_;simp only[newExc,newTuple];refine bf (wpAny_newObj_type ?_ (by size_fits));refine bf (m:=firstArgMember _ _) (wpAny_of_eq (a:=Value.none) (by first |rfl |(simp only[firstArgMember];rfl)) ?_);refine wpAny_newObj_type ?_ (by size_fits);exact wpAny_raiseNew_none hh (hE _ _ (((ux ..).extBut.push _).push _) ⟨_,oU _ rfl,rfl⟩)
theorem Dz(D:ZipApart z TI TO i1 i2 l1 l2)
  (hz:IsZip s.heap z TI TO .none)(hTI:IsPair s.heap TI (.ref i1) (.ref i2))(hTO:IsPair s.heap TO a b)
  (h1:s.heap.IsTupleIter i1 l1 k)(h2:s.heap.IsTupleIter i2 l2 k)(hl1:s.heap.IsTuple l1 xs)(hl2:s.heap.IsTuple l2 ys)(hx:xs[k]? =some x)(hy:ys[k]? =some y)
  (hQ:∀h',IsZip h' z TI TO (rawInt s.heap.objs.size)->IsPair h' TO x y->h'.IsTupleIter i1 l1 (k+1)->h'.IsTupleIter i2 l2 (k+1)->IsPair h' s.heap.objs.size x y->
   (∀c o,c≠z->c≠TO->c≠i1->c≠i2->s.heap.get? c=some o->h'.get? c=some o)->Q (some (.ref s.heap.objs.size)) {s with heap:=h'}):
  wpAny (model prog w) A (pyNext (.ref z)) Q E s:=by
 have hT:s.TypeIs (.ref z) "zip":=⟨_,hz,rfl⟩;refine bf (wpAny_attempt (wpAny_callSpecial?_slot (name:=Str.ofString "__next__") hT PySem.F.slot_zip_next (yb PySem.F.slot_zip_next hT PySem.F.entry_zip_next ?_ (PySem.F.args_zip_next_1 _))));show wpAny _ _ (field (.ref z) 2 >>= _) _ _ _;refine bf (nS hz rfl (x:= .bool false) rfl ?_);show wpAny _ _ (field (.ref z) 3 >>= _) _ _ _;refine bf (nS hz rfl (x:= .ref TI) rfl ?_);refine bf (wpAny_seqItems hTI rfl ?_);show wpAny _ _ (Builtin.SmallTypes.ownedTupleIsFree (.ref z) >>= _) _ _ _;refine bf (bf (nS hz rfl (x:= .none) rfl (dz ?_)));simp only[if_true];refine bf (wpAny_rule (bf (nS hz rfl (x:= .ref TO) rfl (bf (wpAny_setField_rec hz (by simp) λh₁ s6 hs₁=> ?_)))));replace s6:IsZip h₁ z TI TO .ellipsis:=s6;refine bf ?_;simp only[List.zipIdx_cons,List.zipIdx_nil,List.forIn_cons,List.forIn_nil];refine bf (bf (wpAny_onRaise (bf (sM (h1.extBut hs₁.extBut D.i1z) (hl1.extBut hs₁.extBut D.l1z) hx λh₂ T9 hs₂=>dz ?_))));have HH:IsPair h₂ TO a b:=hs₂.extBut _ _ D.TOi1 (hs₁.extBut _ _ D.TOz hTO);refine bf (wpAny_seqItems HH rfl (bf (wpAny_updateSeq_pair HH λh₃ Bm kL=> ?_)));replace Bm:IsPair h₃ TO x b:=Bm;refine bf (wpAny_letGo (dz (bf (bf (wpAny_onRaise ?_)))));refine bf (sM (((h2.extBut hs₁.extBut D.i2z).extBut hs₂.extBut D.i12.symm).extBut kL.extBut D.TOi2.symm) (((hl2.extBut hs₁.extBut D.l2z).extBut hs₂.extBut D.l2i1).extBut kL.extBut D.l2TO) hy λh₄ T7 zk=>dz ?_);have HG:IsPair h₄ TO x b:=zk.extBut _ _ D.TOi2 Bm;refine bf (wpAny_seqItems HG rfl (bf (wpAny_updateSeq_pair HG λh₅ xg zj=> ?_)));replace xg:IsPair h₅ TO x y:=xg;refine bf (wpAny_letGo (dz (dz (bf (wpAny_seqItems xg rfl (bf (wpAny_newTuple ?_)))))));have hsz:h₅.objs.size=s.heap.objs.size:=by rw[zj.1,zk.1,kL.1,hs₂.1,hs₁.1]
 have M_:IsZip h₅ z TI TO .ellipsis:=zj.extBut _ _ D.TOz.symm (zk.extBut _ _ D.i2z.symm (kL.extBut _ _ D.TOz.symm (hs₂.extBut _ _ D.i1z.symm s6)));have TU:∀c o,c≠z->c≠TO->c≠i1->c≠i2->s.heap.get? c=some o->h₅.get? c=some o:=λc o c1 c2 c3 c4 e=>
  zj.extBut _ _ c2 (zk.extBut _ _ c4 (kL.extBut _ _ c2 (hs₂.extBut _ _ c3 (hs₁.extBut _ _ c1 e))))
 have T8:h₅.IsTupleIter i1 l1 (k+1):=((T9.extBut kL.extBut D.TOi1.symm).extBut zk.extBut D.i12).extBut zj.extBut D.TOi1.symm;have T6:h₅.IsTupleIter i2 l2 (k+1):=T7.extBut zj.extBut D.TOi2.symm;have TR:z < h₅.objs.size:=fL M_;show wpAny _ _ (Builtin.SmallTypes.ownedTupleHandOut (.ref z) (.ref h₅.objs.size) >>= _) _ _ _;refine bf ?_;unfold Builtin.SmallTypes.ownedTupleHandOut;have TQ:IsZip (h₅.push {cls:= .type "tuple",data:= .seq #[x,y]}) z TI TO .ellipsis:=jd _ M_;refine bf (wpAny_setField_rec TQ (by simp) λnG Hu Nd=> ?_);replace Hu:IsZip nG z TI TO (rawInt h₅.objs.size):=Hu;refine wpAny_setField_rec Hu (by simp) λzh CM Nc=> ?_;replace CM:IsZip zh z TI TO (rawInt h₅.objs.size):=CM;have up:∀c o,c≠z->h₅.get? c=some o->zh.get? c=some o:=λc o c1 e=>Nc.extBut _ _ c1 (Nd.extBut _ _ c1 (jd _ e));have Ni:IsPair zh h₅.objs.size x y:=Nc.extBut _ _ (um TR) (Nd.extBut _ _ (um TR) (oU _ rfl));rw[hsz]at CM Ni;refine dz ⟨_,rfl, ?_⟩;rw[hsz];exact dz (hQ zh CM (up _ _ D.TOz xg) (T8.at λo e=>up _ o D.i1z e) (T6.at λo e=>up _ o D.i2z e) Ni λc o c1 c2 c3 c4 e=>up c o c1 (TU c o c1 c2 c3 c4 e))
theorem EU(hh:A.handled=none)(D:ZipApart z TI TO i1 i2 l1 l2)
  (hz:IsZip s.heap z TI TO .none)(hTI:IsPair s.heap TI (.ref i1) (.ref i2))(hTO:IsPair s.heap TO a b)
  (h1:s.heap.IsTupleIter i1 l1 k)(hl1:s.heap.IsTuple l1 xs)(hx:xs[k]? =none)
  (hQ:∀h',(∀c o,c≠z->c≠TO->c≠i1->c≠i2->s.heap.get? c=some o->h'.get? c=some o)->Q none {s with heap:=h'}):
  wpAny (model prog w) A (pyNext (.ref z)) Q E s:=by
 have hT:s.TypeIs (.ref z) "zip":=⟨_,hz,rfl⟩;refine bf (wpAny_attempt (wpAny_callSpecial?_slot (name:=Str.ofString "__next__") hT PySem.F.slot_zip_next (yb PySem.F.slot_zip_next hT PySem.F.entry_zip_next ?_ (PySem.F.args_zip_next_1 _))));show wpAny _ _ (field (.ref z) 2 >>= _) _ _ _;refine bf (nS hz rfl (x:= .bool false) rfl ?_);show wpAny _ _ (field (.ref z) 3 >>= _) _ _ _;refine bf (nS hz rfl (x:= .ref TI) rfl ?_);refine bf (wpAny_seqItems hTI rfl ?_);show wpAny _ _ (Builtin.SmallTypes.ownedTupleIsFree (.ref z) >>= _) _ _ _;refine bf (bf (nS hz rfl (x:= .none) rfl (dz ?_)));simp only[if_true];refine bf (wpAny_rule (bf (nS hz rfl (x:= .ref TO) rfl (bf (wpAny_setField_rec hz (by simp) λh₁ s6 hs₁=> ?_)))));replace s6:IsZip h₁ z TI TO .ellipsis:=s6;refine bf ?_;simp only[List.zipIdx_cons,List.zipIdx_nil,List.forIn_cons,List.forIn_nil];refine bf (bf (wpAny_onRaise (bf (sL hh (h1.extBut hs₁.extBut D.i1z) (hl1.extBut hs₁.extBut D.l1z) hx λh₂ e hs₂ he=> ?_))));obtain⟨oe,Hw,hce⟩:=he;have Na:IsZip h₂ z TI TO .ellipsis:=hs₂ _ _ D.i1z.symm s6;have hez:e≠z:=λx=>by subst x;rw[Na]at Hw;cases Hw;simp at hce
 refine wpAny_setField_rec Na (by simp) λh₃ Z kL=> ?_;refine bf (wpAny_isInstance (T:="StopIteration") (b:=true) ⟨oe,kL.extBut _ _ hez Hw,hce⟩ isSubtype_stop ?_);exact dz (hQ _ λc o c1 Z c3 Z x=>kL.extBut _ _ c1 (hs₂ _ _ c3 (hs₁.extBut _ _ c1 x)))
end
section
variable{G:Gd}{ah:Heap}{Fa:aP G ah}{N:Nat}{cx:Cx}{F:FZ}{ρ:List Addr}{objs:az}{X:List (Addr×Obj)}{h h':Heap}
noncomputable def JK(l l':List D):List V:=(l.zip l').map λp=> .d (.tup [p.1,p.2])
noncomputable abbrev EW(f0:Value)(TI TO:Addr):Obj:={cls:= .type "zip",dict:=none,data:= .fields #[f0, .bool false, .bool false, .ref TI, .ref TO],slots:= #[]}
inductive Ys(G:Gd)(l l':List D)(z:Addr)(F:FZ)(k:Nat)(cz:List (Addr×Obj)):Prop
 |mk (TI TO i1 i2 a1 a2:Addr) (vs vs':List Value) (n n':Nat) (x y:Value) (o1 o2:Obj) (Z:ZipApart z TI TO i1 i2 a1 a2) (f1:F.1 a1=some (fO vs n)) (f2:F.1 a2=some (fO vs' n')) (r1:cG G F l vs) (r2:cG G F l' vs')
  (c1:o1.cls= .type "tuple_iterator") (d1:o1.data= .fields #[.ref a1, .int k 0]) (c2:o2.cls= .type "tuple_iterator") (d2:o2.data= .fields #[.ref a2, .int k 0]) (e:cz=[(z,EW .none TI TO),(TO,fO [x,y] 0),(i1,o1),(i2,o2),(TI,fO [.ref i1, .ref i2] 0)])
theorem Su(n:c ∉ [z,TO,i1,i2,TI]):c≠z/\c≠TO/\c≠i1/\c≠i2:=
 ⟨λq=>n (q▸ .head _),λq=>n (q▸ .tail _ (.head _)),λq=>n (q▸ .tail _ (.tail _ (.head _))),λq=>n (q▸ .tail _ (.tail _ (.tail _ (.head _))))⟩
theorem UU{P:α->Prop}(ha:P a)(hb:P b)(hc:P c)(hd:P d)(he:P e):∀x ∈ [a,b,c,d,e],P x:=λx hx=>by
 rcases cN.mp hx with rfl |hx;exact ha
 rcases cN.mp hx with rfl |hx;exact hb
 rcases cN.mp hx with rfl |hx;exact hc
 rcases cN.mp hx with rfl |hx;exact hd
 rcases cN.mp hx with rfl |hx;exact he
 cases hx
theorem JJ(l l':List D)(Xo:l.length=l'.length)(z:Addr)(elts:List PySem.Expr)(c:Nat)(pos:Pos):Rw G ah none (JK l l') (.ref z) (.Tuple elts c pos) (λF U k cz=>Ys G l l' z F k cz)where
 mono J s _:=J.rec λTI TO i1 i2 a1 a2 vs vs' n n' x y o1 o2 Z f1 f2 r1 r2 c1 d1 c2 d2 e=>⟨TI,TO,i1,i2,a1,a2,vs,vs',n,n',x,y,o1,o2,Z,s.1 _ _ f1,s.1 _ _ f2,r1.mono s,r2.mono s,c1,d1,c2,d2,e⟩
 next {A s objs F ρ k cz X v Q E} hh S J _ hv hQ:=J.rec λTI TO i1 i2 a1 a2 vs vs' n n' x y o1 o2 Z f1 f2 r1 r2 c1 d1 c2 d2 e=>by
  clear J;subst e;refine cps λPP kk=> ?_;obtain⟨p,hp,rfl⟩:=mS ((gB ..).symm.trans hv);obtain⟨ga,gb⟩:=List.getElem?_zip_eq_some.mp hp;obtain⟨va,ha,wa⟩:=r1.get ga;obtain⟨vb,hb,wb⟩:=r2.get gb;refine kk ?_;clear kk;have hz:=(S.ext (z,_) (.head _)).1;have hTO:=(S.ext (TO,_) (.tail _ (.head _))).1;have h1:=(S.ext (i1,_) (.tail _ (.tail _ (.head _))) (cY d1)).1;have h2:=(S.ext (i2,_) (.tail _ (.tail _ (.tail _ (.head _)))) (cY d2)).1;have hTI:=(S.ext (TI,_) (.tail _ (.tail _ (.tail _ (.tail _ (.head _)))))).1;refine Dz Z hz hTI hTO ⟨o1,h1,c1,d1⟩ ⟨o2,h2,c2,d2⟩ ⟨_,S.stays _ _ f1,rfl,n,rfl⟩ ⟨_,S.stays _ _ f2,rfl,n',rfl⟩ (iH ha) (iH hb) λh₁ z₁ t₁ i₁ i₂ T₁ kp=>hQ _ _ λQ' E' hq=>wpAny_letOwnedTupleGo_zip z₁ λh₂ z₂ hs=> ?_;refine cps λPP kk=> ?_;obtain⟨p1,g1,k1,e1⟩:=i₁.extBut hs.extBut Z.i1z;obtain⟨p2,g2,k2,e2⟩:=i₂.extBut hs.extBut Z.i2z;refine kk ?_;clear kk;have Zo:∀c o,c≠z->c≠TO->c≠i1->c≠i2->s.heap.get? c=some o->h₂.get? c=some o:=λc o c1 c2 c3 c4 e=>hs.extBut _ _ c1 (kp c o c1 c2 c3 c4 e);have S2:SR G ah F ρ objs ([(z,EW .none TI TO),(TO,fO [va,vb] 0),(i1,p1),(i2,p2),(TI,fO [.ref i1, .ref i2] 0)]++X) h₂:=S.B6 rfl (λb ob nb e=>let⟨n1,n2,n3,n4⟩:=Su nb;Zo b ob n1 n2 n3 n4 e) (UU z₂ (hs.extBut _ _ Z.TOz t₁) g1 g2 (Zo _ _ Z.TIz Z.TITO Z.TIi1 Z.TIi2 hTI));have sb:=bM (F:=F) (fO [va,vb] 0) S.br;have fx:∀q ∈ [(z,EW .none TI TO),(TO,fO [va,vb] 0),(i1,p1),(i2,p2),(TI,fO [.ref i1, .ref i2] 0)],q.1≠s.heap.objs.size:=UU (jc (fL hz)) (jc (fL hTO)) (jc (fL h1)) (jc (fL h2)) (jc (fL hTI));have S3:=S2.freeze (hs.extBut _ _ (um (fL hz)) T₁) S.br (S.Eg (Nat.le_refl _)) λq hq=>(gU.mp hq).elim (fx q) λhq=>S.pH (Nat.le_refl _) q (iF _ hq);exact hq _ [(z,EW .none TI TO),(TO,fO [va,vb] 0),(i1,p1),(i2,p2),(TI,fO [.ref i1, .ref i2] 0)] h₂ s.toks sb rfl ⟨TI,TO,i1,i2,a1,a2,vs,vs',n,n',va,vb,p1,p2,Z,sb.1 _ _ f1,sb.1 _ _ f2,r1.mono sb,r2.mono sb,k1,e1,k2,e2,rfl⟩ S3 ⟨_,[va,vb],0,rfl,cj _ _ _,cG.two (wa.mono sb) (wb.mono sb)⟩
 done {A s objs F ρ k cz X Q E} hh S J _ hv hQ:=J.rec λTI TO i1 i2 a1 a2 vs vs' n n' x y o1 o2 Z f1 f2 r1 r2 c1 d1 c2 d2 e=>by
  subst e;have hl:l.length<=k:=by
   have:=Dy.mp hv;rw[JK,cO,List.length_zip, <-Xo,Nat.min_self]at this;exact this
  exact EU hh Z (S.ext (z,_) (.head _)).1 (S.ext (TI,_) (.tail _ (.tail _ (.tail _ (.tail _ (.head _)))))).1 (S.ext (TO,_) (.tail _ (.head _))).1 ⟨o1,(S.ext (i1,_) (.tail _ (.tail _ (.head _))) (cY d1)).1,c1,d1⟩ ⟨_,S.stays _ _ f1,rfl,n,rfl⟩
   (by rw[Aw,Ax (r1.length▸hl)]) λh₁ kp=>hQ h₁ s.toks (S.xu λb ob nb e=>let⟨n1,n2,n3,n4⟩:=Su nb;kp b ob n1 n2 n3 n4 e)
 self {A s objs F ρ k cz X Q E} S J hQ:=J.rec λTI TO i1 i2 a1 a2 vs vs' n n' x y o1 o2 Z f1 f2 r1 r2 c1 d1 c2 d2 e=>by
  clear d2 c2 d1 c1 r2 r1 f2 f1 Z n' n vs' vs a2 a1 J;subst e;exact wpAny_pyIter_zip (S.ext (z,_) (.head _)).1 hQ
noncomputable abbrev Mt(h:Heap)(l1:Addr):Heap:=h.push {cls:= .type "tuple_iterator",data:= .fields #[.ref l1, .int 0 0]}
noncomputable abbrev Ms(h:Heap)(l1 l2:Addr):Heap:=(Mt h l1).push {cls:= .type "tuple_iterator",data:= .fields #[.ref l2, .int 0 0]}
noncomputable abbrev N5(h:Heap)(l1 l2:Addr):Heap:=(Ms h l1 l2).push {cls:= .type "tuple",data:= .seq #[.ref h.objs.size, .ref (Mt h l1).objs.size]}
noncomputable abbrev Rd(h:Heap)(l1 l2:Addr):Heap:=(N5 h l1 l2).push {cls:= .type "tuple",data:= .seq #[.none, .none]}
noncomputable abbrev YY(h:Heap)(l1 l2:Addr):Heap:=(Rd h l1 l2).push {cls:= .type "zip",data:= .fields #[.none, .bool false, .bool false, .ref (Ms h l1 l2).objs.size, .ref (N5 h l1 l2).objs.size]}
theorem A9(l1 l2:Addr)(xs ys:Array Value):Meets (Builtin.«zip.__new__» ⟨[.type "zip", .ref l1, .ref l2],[]⟩) (λZ R s=>s.heap.IsTuple l1 xs/\s.heap.IsTuple l2 ys/\
   R (.ok (.ret (.ref (Rd s.heap l1 l2).objs.size))) {s with heap:=YY s.heap l1 l2}):=
 .of_wp λprog w A R s h=>by
  obtain⟨hp,g,d,tk,os⟩:=s;obtain⟨hl1,hl2,h⟩:=h;have hsub:=sub_zip;have hL1:Heap.IsTuple (Shared.heap ⟨hp,g,d,tk,os⟩) l1 xs:=hl1;have hL2:Heap.IsTuple (Shared.heap ⟨hp.push {cls:= .type "tuple_iterator",data:= .fields #[.ref l1, .int 0 0]},g,d,tk,os⟩) l2 ys:=Heap.IsTuple.push hl2 _
  wp_walk using wpAny_pyIter_tuple hL1,wpAny_pyIter_tuple hL2
  exact⟨_,rfl,h⟩
noncomputable def Wv:List V->Option (V×V)
 | [a,b]=>some (a,b)
 |_=>none
noncomputable def zOf(vs:List V)(o:az):aR (List V×Option Nat):=bx (Wv vs) λp=>bx (n8 p.1) λl=>bx (n8 p.2) λl'=>bz (decide (l.length=l'.length)) (.ok (JK l l',none) o)
noncomputable def Qn(fs:ug):DI:=λloc o=>(fs loc o).bind zOf
theorem N4(Xo:l.length=l'.length)(S:SR G ah F ρ objs X s.heap)(w1:gy F fO (cG G F l) u)(w2:gy F fO (cG G F l') v)
  (P:fB Fa (.Tuple elts c pos) A F ρ X s Q E (.ok (JK l l',none) objs)):wpAny (model PR G.w) A (call (.type "zip") [u,v]) (λx s₁=>wpAny (model PR G.w) A (pyIter x) Q E s₁) E s:=w1.rec λa1 vs n e1 f1 r1=>w2.rec λa2 vs' n' e2 f2 r2=>by
 clear w2 w1;subst e1;subst e2;refine callType_new PySem.F.called_zip (by decide) (PySem.F.typeCall_zip_2 _ _) (PySem.F.newCall_zip_2 _ _) (λobj=>PySem.F.args_object_init_3 obj _ _) PySem.F.entry_zip_new
  (A9 a1 a2 vs.toArray vs'.toArray) ⟨⟨_,S.stays _ _ f1,rfl,n,rfl⟩,⟨_,S.stays _ _ f2,rfl,n',rfl⟩, ?_⟩
 have z1:(Mt s.heap a1).objs.size=s.heap.objs.size+1:=rK ..;have z2:(Ms s.heap a1 a2).objs.size=s.heap.objs.size+2:=by rw[rK,z1]
 have z3:(N5 s.heap a1 a2).objs.size=s.heap.objs.size+3:=by rw[rK,z2]
 have z4:(Rd s.heap a1 a2).objs.size=s.heap.objs.size+4:=by rw[rK,z3]
 have S5:=((((S.cR (o:={cls:= .type "tuple_iterator",data:= .fields #[.ref a1, .int 0 0]}) rfl).cR (o:={cls:= .type "tuple_iterator",data:= .fields #[.ref a2, .int 0 0]}) rfl).cR (o:={cls:= .type "tuple",data:= .seq #[.ref s.heap.objs.size, .ref (Mt s.heap a1).objs.size]}) rfl).cR
  (o:={cls:= .type "tuple",data:= .seq #[.none, .none]}) rfl).cR (o:={cls:= .type "zip",data:= .fields #[.none, .bool false, .bool false, .ref (Ms s.heap a1 a2).objs.size, .ref (N5 s.heap a1 a2).objs.size]}) rfl
 have g5:(YY s.heap a1 a2).get? (Rd s.heap a1 a2).objs.size=some _:=oU _ rfl;show _/\_;refine⟨⟨_,g5,rfl⟩,wpAny_pyIter_zip g5 ?_⟩;have Z:ZipApart (Rd s.heap a1 a2).objs.size (Ms s.heap a1 a2).objs.size (N5 s.heap a1 a2).objs.size s.heap.objs.size (Mt s.heap a1).objs.size a1 a2:=by rw[z1,z2,z3,z4];exact zipApart_new (fL (S.stays _ _ f1)) (fL (S.stays _ _ f2))
 refine P _ [((Rd s.heap a1 a2).objs.size,EW .none (Ms s.heap a1 a2).objs.size (N5 s.heap a1 a2).objs.size),((N5 s.heap a1 a2).objs.size,fO [.none, .none] 0),(s.heap.objs.size,{cls:= .type "tuple_iterator",data:= .fields #[.ref a1, .int 0 0]}),((Mt s.heap a1).objs.size,{cls:= .type "tuple_iterator",data:= .fields #[.ref a2, .int 0 0]}),((Ms s.heap a1 a2).objs.size,fO [.ref s.heap.objs.size, .ref (Mt s.heap a1).objs.size] 0)]
  F F ρ _ s.toks _ (Sub.refl _) (fc _) rfl (S5.perm ?_) (JJ l l' Xo _ elts c pos) ⟨_,_,_,_,a1,a2,vs,vs',n,n', .none, .none,_,_,Z,f1,f2,r1,r2,rfl,rfl,rfl,rfl,rfl⟩
 refine((List.Perm.refl _).cons _).trans (List.Perm.cons _ (List.Perm.cons _ ?_));exact List.Perm.append_right X (List.reverse_perm [(s.heap.objs.size,_),((Mt s.heap a1).objs.size,_),((Ms s.heap a1 a2).objs.size,_)]).symm
theorem QW(hg:SG Fa cx fn (.type "zip"))(ha:zW Fa N cx es fs)(hst:es.all noStar=true)(hs:mP fn es pos cx.en):Ma Fa N cx (.Call fn es [] pos) (.Tuple elts c tp) (Qn fs):=
 Dn hg t9 ha hst hs λ{A s objs F ρ X Q E args us} R S W P=>cA (C:=fB Fa (.Tuple elts c tp) A F ρ X s Q E) id P λp hp P=>cA (C:=fB Fa (.Tuple elts c tp) A F ρ X s Q E) id P λl hl P=>cA (C:=fB Fa (.Tuple elts c tp) A F ρ X s Q E) id P λl' hl' P=>by
  obtain⟨hz,P9⟩:=ju (C:=fB Fa (.Tuple elts c tp) A F ρ X s Q E) id P;rcases args with _ |⟨a,_ |⟨b,_ |_⟩⟩<;>first |exact aK hp |skip
  cases hp;exact W.rec λu us e w W0=>W0.rec λu' us' e' w' W1=>by
   clear W0 W;subst e;subst e';cases W1;exact N4 (iD hz) S (w.tup hl) (w'.tup hl') P9
end
structure XC where
 nm:Str
 q:Str
 N:Addr
 bs:List Value
 hdct:Bool
 sn:List Str
 sub:List Value
 ab:Bool
 col:Option Bool
 dd:Option Addr
 k0:Option Value
 k1:Option Value
 k2:Option Value
 k3:Option Value
 k5:Option Value
section
variable{M:Model}{prog:Program}{w:World}{A:Around}{E:Value->Shared->Prop}{R:Result->Shared->Prop}{h:Heap}{g:Array GenState}{d:Drawn}{t:Nat}{os:OsState}
variable{z:XC}{C dP:Addr}
noncomputable abbrev i8(dP:Addr):List Value:=[.ref dP, .type "Exception", .type "BaseException", .type "object"]
noncomputable abbrev qZ(z:XC)(C dP:Addr):Obj:=excClassObj z.nm z.q C z.N z.bs (i8 dP) z.hdct z.sn z.sub z.ab z.col z.dd z.k0 z.k1 z.k2 z.k3 z.k5 "Exception.__new__"
theorem rN(hb:([.type "Exception", .type "BaseException", .type "object"]:List Value).contains (.type X)=b):(Value.ref C::i8 dP).contains (.type X)=b:=by
 rw[List.contains_cons,List.contains_cons,hb];cases b<;>rfl
theorem JL(hC:h.get? C=some (qZ z C dP))
  (hq:Q () ⟨h,g,d,t,os⟩):wpAny M A (checkBuiltinCall "Exception.__new__" ⟨.ref C::rest,[]⟩) Q E ⟨h,g,d,t,os⟩:=
 wpAny_check_new_subU EP (by rw[List.contains_cons,EP.hasB];rfl) .base hC hq
theorem Rz(hC:h.get? C=some (qZ z C dP))
  (hq:R (.ok (.ret (.ref (h.objs.size+1)))) ⟨(h.push {cls:= .type "tuple",data:= .seq rest.toArray}).push {cls:= .ref C,data:= .fields #[.ref h.objs.size, .none, .none, .none, .bool false, .none]},g,d,t,os⟩)(hrest:rest.length<=sizeLine):
  codeAny (model prog w) A (.builtin "Exception.__new__" ⟨.ref C::rest,[]⟩) R ⟨h,g,d,t,os⟩:=by
 have F:=EP;have Zy:=F.ends;have PM:(Value.ref C::i8 dP).contains (.type "Exception")=true:=rN F.hasB;have hcA:(Value.ref C::i8 dP).contains (.type "AttributeError")=false:=rN F.noAttr;have hcN:(Value.ref C::i8 dP).contains (.type "NameError")=false:=rN F.noName;refine codeAny_builtinAt F.entry ?_;unfold Builtin.«BaseException.__new__»;refine PySem.wpAt_bind ?_;show PySem.wpAt _ _ _ (stack >>= _) _ _ _;refine PySem.wpAt_bind (PySem.wpAt_stack λp below=>PySem.wpAt_of_wpAny ?_)
 wp_walk
 refine PySem.wpAt_of_wpAny ?_;rw[F.owner]
 repeat (first |with_reducible refine wpAny_madeHere_exc F.canon hC ?_ |with_reducible refine uw hC ?_ |(with_reducible refine wpAny_isSubtype_exc hC ?_;first |rw[PM] |rw[hcA] |rw[hcN]) |wp_step)
 show R _ _;rw[rK];exact hq
theorem ye(hC:h.get? C=some (qZ z C dP))
  (hi:∀{h':Heap},(∀b o,h.get? b=some o->h'.get? b=some o)->Looks (model prog w) h' (typeLookup (.ref C) "__init__") (some (.ref fI)))(hfI:h.get? fI=some oI)(hfc:oI.cls= .type "function")(hrest:rest.length<=sizeLine)
  (hq:wpAny (model prog w) A (call (.ref fI) (.ref (h.objs.size+1)::rest)) (λr s'=>r= .none/\Q (.done (.ret (.ref (h.objs.size+1)))) s') E ⟨(h.push {cls:= .type "tuple",data:= .seq rest.toArray}).push {cls:= .ref C,data:= .fields #[.ref h.objs.size, .none, .none, .none, .bool false, .none]},g,d,t,os⟩):
  wpAny (model prog w) A (Builtin.«type.__call__» ⟨.ref C::rest,[]⟩) Q E ⟨h,g,d,t,os⟩:=by
 have F:=EP
 repeat (first |with_reducible refine uw hC ?_ |with_reducible refine wpAny_madeBy_exc hC ?_ |wp_step)
 refine codeAny_call_builtin_code (Code.quiet_builtin _ F.quiet) (JL hC ?_);refine Rz hC ?_ hrest;show wpAny _ _ _ _ _ _;have up:∀b o,h.get? b=some o->((h.push {cls:= .type "tuple",data:= .seq rest.toArray}).push {cls:= .ref C,data:= .fields #[.ref h.objs.size, .none, .none, .none, .bool false, .none]}).get? b=some o:=λb o e=>jd _ (jd _ e);have TY:=up _ _ hC;have PL:=up _ _ hfI;have hget:((h.push {cls:= .type "tuple",data:= .seq rest.toArray}).push {cls:= .ref C,data:= .fields #[.ref h.objs.size, .none, .none, .none, .bool false, .none]}).get? (h.objs.size+1)=some
   {cls:= .ref C,data:= .fields #[.ref h.objs.size, .none, .none, .none, .bool false, .none]}:=by heap_get
 have hcC:(Value.ref C::i8 dP).contains (.ref C)=true:=by simp
 unfold isInstance
 repeat (first |with_reducible refine uw hget ?_ |(with_reducible refine wpAny_isSubtype_exc TY ?_;rw[hcC]) |wp_step)
 show wpAny _ _ (typeLookup (.ref C) _) _ _ _;refine(hi up).here ?_;refine kW (bf ?_);unfold bindSpecial;refine bf (wpAny_typeOf (T:="function") ⟨_,PL,hfc⟩ ?_);rw[bw (by decide)];refine dz (bf (pW hq (λr s' hr=> ?_) λZ Z x=>x));obtain⟨rfl,hQ⟩:=hr
 wp_walk
 exact hQ
theorem N9(hC:h.get? C=some (qZ z C dP))
  (hi:∀{h':Heap},(∀b o,h.get? b=some o->h'.get? b=some o)->Looks (model prog w) h' (typeLookup (.ref C) "__init__") (some (.ref fI)))(hfI:h.get? fI=some oI)(hfc:oI.cls= .type "function")(hrest:rest.length<=sizeLine)
  (hq:wpAny (model prog w) (A.under (.builtin "type.__call__" ⟨.ref C::rest,[]⟩)) (call (.ref fI) (.ref (h.objs.size+1)::rest)) (λr s'=>r= .none/\Q (.ref (h.objs.size+1)) s') E ⟨(h.push {cls:= .type "tuple",data:= .seq rest.toArray}).push {cls:= .ref C,data:= .fields #[.ref h.objs.size, .none, .none, .none, .bool false, .none]},g,d,t,os⟩):
  wpAny (model prog w) A (call (.ref C) rest) Q E ⟨h,g,d,t,os⟩:=by
 have f1:=tc_lookup;have f2:=tc_bind (.ref C);have hT:(⟨h,g,d,t,os⟩:Shared).TypeIs (.ref C) "type":=⟨_,hC,rfl⟩;refine wpAny_call (codeAny_of_tree ?_);show wpAny _ _ (callAny (.ref C) _) _ _ _
 repeat (any_goals (first |assumption |with_reducible refine uw hC ?_ |wp_step))
 refine⟨rfl, ?_⟩;exact codeAny_call_builtin_at (Code.quiet_builtin _ (by decide+kernel)) entry_typeCall (wpAny_check_type_call_sub hC (ye hC hi hfI hfc hrest hq))
end
section
open Builtin Builtin.ObjectAttr
variable{prog:Program}{w:World}{A:Around}{E:Value->Shared->Prop}{R:Result->Shared->Prop}{s:Shared}{K:Frag}{C dP x:Addr}
theorem Mu(X:K.In s.heap)(I:InstAt s.heap x ox C od)(hc:clsIn K C=some cd)(hm:cd.mro= .ref C::i8 dP)(ha:findIn K (.ref C) name=some none)
  (h:wpAny (model prog w) A.in1 (storeInOwnDict (.ref x) (.ref C) (.str name tk) name v false) (λiP s'=>match iP with | .done f=>R (.ok f) s' | .again c'=>c'.quiet=true/\codeAny (model prog w) A c' R s') (λe s'=>R (.error e) s') s):
  codeAny (model prog w) A (.call (.builtin "object.__setattr__") ⟨[.ref x, .str name tk,v],[]⟩) R s:=by
 have SF:=PySem.F.store_object;have ne:cd.mro.isEmpty=false:=by rw[hm];rfl
 have hobj:cd.mro.contains (.type "object")=true:=by rw[hm];exact rN (by decide+kernel)
 have sub:Looks (model prog w) s.heap (isInstance (.ref x) (.type "object")) true:=I.type.andThen (looks_mroIn X (by unfold mroIn;rw[hc,Option.bind_some,if_neg (by rw[ne];decide),hobj]));refine codeAny_call_builtin SF.slot.plain SF.entry (@check_slot (model prog w) _ _ s "object.__setattr__" "object" "__setattr__" (.ref x) [.str name tk,v] [] _ SF.kind SF.split sub (SF.args (.ref x) (.str name tk) v) ?_);have hmr:Looks (model prog w) s.heap (mroOf (.ref C)) cd.mro:=(looks_clsIn X hc).andThen .now;rw[osa_eq,refuse_eq];refine bf (bf (I.type.here (bf (hmr.here ?_))));rw[hm,refuseLoop_ref,refuseLoop_ref,PySem.F.store_Exception.passes];refine dz (bf (I.type.here (bf ((looks_findIn X ha).here (bf ?_)))));exact dz h
theorem N7(X:K.In s.heap)(hx:s.heap.get? x=some {cls:= .ref C,dict:=none,data:= .fields vs,slots:=sl})
  (hc:clsIn K C=some cd)(hd:cd.hasDict=true)(hm:cd.mro= .ref C::i8 dP)(hs:findIn K (.ref C) "__setattr__"=some (some (.builtin "object.__setattr__")))(ha:findIn K (.ref C) name=some none)
  (hQ:∀h' tk,h'.get? x=some {cls:= .ref C,dict:=some s.heap.objs.size,data:= .fields vs,slots:=sl}->h'.Ns1 s.heap.objs.size (λy=>if y=name then some v else none)->(∀b o,b≠x->s.heap.get? b=some o->h'.get? b=some o)->Q () {s with heap:=h',toks:=tk}):
  wpAny (model prog w) A (setAttr (.ref x) name v) Q E s:=by
 have I:InstAt s.heap x {cls:= .ref C,dict:=none,data:= .fields vs,slots:=sl} C none:=⟨hx,rfl,rfl,trivial⟩;refine set_plain X I hs ?_;refine Mu (s:={s with toks:=s.toks+1}) X I hc hm ha ?_;have xs:x≠s.heap.objs.size:=jc (fL hx);refine bf (dz (bf ?_));show wpAny _ _ (instanceDict x true) _ _ _;unfold instanceDict;refine bf (wpAny_loadPart hx (bf (Looks.here (s:={s with toks:=s.toks+1}) (looks_clsIn X hc) ?_)));rw[hd];refine bf (wpAny_alloc ?_);have Nb:(s.heap.push {cls:= .type "dict",data:= .dict #[]}).get? x=some {cls:= .ref C,dict:=none,data:= .fields vs,slots:=sl}:=jd _ hx;refine bf (wpAny_update Nb (dz ?_));have gd:((s.heap.push {cls:= .type "dict",data:= .dict #[]}).update x λo=>{o with dict:=some s.heap.objs.size}).get? s.heap.objs.size=some {cls:= .type "dict",data:= .dict #[]}:=
  (Heap.get?_update_ne _ _ _ _ xs.symm).trans (oU _ rfl)
 have nd:((s.heap.push {cls:= .type "dict",data:= .dict #[]}).update x λo=>{o with dict:=some s.heap.objs.size}).Ns s.heap.objs.size (λZ=>none):=
  ⟨_, #[],_,gd,rfl,λe he=>absurd he (by simp),λZ=>rfl⟩
 show wpAny _ _ (storeInDict s.heap.objs.size (.str name _) name v) _ _ _;unfold storeInDict newKeyGuard;refine bf (dz (bf (wpAny_nsSet1 (Heap.Ns1.of_empty nd) λh' hn' hs'=> ?_)));refine cps λPP kk=> ?_;obtain⟨oD,esD,epD,Xn,Xw,Xx⟩:=hn'.count (Within.cons name v Within.nil);refine kk ?_;clear kk;refine bf (wpAny_lookBehind Xn (by rw[Xw];exact pastItsLine_dict (cS Xx (by rw[jS,nj,sizeLine_eq];exact Nat.succ_pos _))) ?_);refine dz (hQ h' _ ?_ hn' λb o nb e=> ?_)
 ·exact(hs'.2 x xs).trans (Heap.get?_update_self _ Nb rfl)
 ·exact(hs'.2 b (jc (fL e))).trans ((Heap.get?_update_ne _ _ _ _ nb).trans (jd _ e))
theorem N6{D:Addr}(X:K.In s.heap)(hx:s.heap.get? x=some {cls:= .ref C,dict:=some D,data:= .fields vs,slots:=sl})(xD:x≠D)
  (hn:s.heap.Ns1 D (λy=>if y=n₁ then some v₁ else none))
  (hc:clsIn K C=some cd)(hd:cd.hasDict=true)(hm:cd.mro= .ref C::i8 dP)(hs:findIn K (.ref C) "__setattr__"=some (some (.builtin "object.__setattr__")))(ha:findIn K (.ref C) name=some none)
  (hQ:∀h' tk,h'.get? x=some {cls:= .ref C,dict:=some D,data:= .fields vs,slots:=sl}->(∀b o,b≠D->s.heap.get? b=some o->h'.get? b=some o)->Q () {s with heap:=h',toks:=tk}):
  wpAny (model prog w) A (setAttr (.ref x) name v) Q E s:=by
 refine cps λPP kk=> ?_;obtain⟨o₀,ZS,ZU,g₀,r₀⟩:=id hn;refine kk ?_;clear kk;have I:InstAt s.heap x {cls:= .ref C,dict:=some D,data:= .fields vs,slots:=sl} C (some o₀):=⟨hx,rfl,rfl,g₀⟩;refine set_plain X I hs ?_;refine Mu (s:={s with toks:=s.toks+1}) X I hc hm ha ?_;refine bf (dz (bf ?_));show wpAny _ _ (instanceDict x true) _ _ _;unfold instanceDict;refine bf (wpAny_loadPart hx (bf (Looks.here (s:={s with toks:=s.toks+1}) (looks_clsIn X hc) ?_)));rw[hd];refine dz ?_;show wpAny _ _ (storeInDict D (.str name _) name v) _ _ _;unfold storeInDict newKeyGuard;refine bf (dz (bf (wpAny_nsSet1 hn λh' hn' hs'=> ?_)));refine cps λPP kk=> ?_;obtain⟨oD,esD,epD,Xn,Xw,Xx⟩:=hn'.count (Within.cons name v (Within.cons n₁ v₁ Within.nil));refine kk ?_;clear kk;refine bf (wpAny_lookBehind Xn (by rw[Xw];exact pastItsLine_dict (cS Xx (by simp[sizeLine_eq]))) ?_);exact dz (hQ h' _ ((hs'.2 x xD).trans hx) λb o nb e=>(hs'.2 b nb).trans e)
theorem Oa
  (hC:s.heap.get? C=some (qZ z C dP))(he:s.heap.get? e=some {cls:= .ref C,data:= .fields #[.ref t0, .none, .none, .none, .bool false, .none]})
  (hQ:∀h' t1,h'.get? e=some {cls:= .ref C,data:= .fields #[.ref t1, .none, .none, .none, .bool false, .none]}->(∀b o,b≠e->s.heap.get? b=some o->h'.get? b=some o)->Q .none {s with heap:=h'}):
  wpAny (model prog w) A (call (.builtin "Exception.__init__") [.ref e,u]) Q E s:=by
 have F:=EP;obtain⟨h,g,d,t,os⟩:=s;have PM:(Value.ref C::i8 dP).contains (.type "Exception")=true:=rN F.hasB;have hchk:∀{M:Model}{A':Around}{E':Value->Shared->Prop}{Q':Unit->Shared->Prop},Q' () ⟨h,g,d,t,os⟩->wpAny M A' (checkBuiltinCall "Exception.__init__" ⟨[.ref e,u],[]⟩) Q' E' ⟨h,g,d,t,os⟩:=λ{M A' E' Q'} hq=>by
  have Xh:=F.noStar;simp only[checkBuiltinCall,F.initKind,F.initSplit,F.initRow]
  repeat (first |with_reducible refine uw he ?_ |with_reducible refine uw hC ?_ |(with_reducible refine wpAny_isSubtype_exc hC ?_;rw[PM]) |wp_step)
  exact hq
 refine wpAny_call (codeAny_call_builtin F.init.plain F.initEntry (hchk ?_));unfold Builtin.«BaseException.__init__»;dsimp only;rw[aZ (by simp)];unfold newTuple Builtin.BaseException.bexcPut;have HA:(h.push {cls:= .type "tuple",data:= .seq [u].toArray}).get? e=some _:=jd _ he;refine bf (wpAny_newObj_type (bf (bf (nS HA rfl (x:= .ref t0) rfl (bf (wpAny_setField HA rfl (by simp) ?_))))) (by size_fits));refine wpAny_letGo (dz ?_);refine hQ _ h.objs.size ?_ λb o nb hb=> ?_
 ·exact Heap.get?_update_self _ HA rfl
 ·exact(Heap.get?_update_ne _ _ _ _ nb).trans (jd _ hb)
end
section
variable{G:Gd}{ah:Heap}{Fa:aP G ah}{N:Nat}{F:FZ}{ρ:List Addr}{objs:az}{X:List (Addr×Obj)}{h:Heap}{cx:Cx}
structure Jr(K:Frag)(mg:Str->Option Value)(C dP fI:Addr):Prop where
 cls:∃cd,clsIn K C=some cd/\cd.hasDict=true/\cd.mro= .ref C::i8 dP
 obj:∃z,K.lookup C=some (qZ z C dP)
 sa:findIn K (.ref C) "__setattr__"=some (some (.builtin "object.__setattr__"))
 what:findIn K (.ref C) "what"=some none
 at_:findIn K (.ref C) "at"=some none
 init:findIn K (.ref C) "__init__"=some (some (.ref fI))
 exi:findCls K (.type "Exception") (.type "type") "__init__"=some (.val (.builtin "Exception.__init__"))
 noE:mg "Exception"=none
noncomputable abbrev E4(p1 p2 p3 p4 p5 p6 p7 p8 p9 yI Ai Ah yH yG:Pos):List Stmt:=[
 .Expr (.Call (.Attribute (.Name "Exception" p1) "__init__" p2) [.Name "self" p3, .Name "what" p4] [] p5) p6,
 .Assign [.Attribute (.Name "self" p7) "what" p8] (.Name "what" p9) yI,
 .Assign [.Attribute (.Name "self" Ai) "at" Ah] (.Name "at" yH) yG]
inductive vR(h h':Heap)(C e:Addr):Prop
 |mk (oe:Obj) (vs:Array Value) (kp:∀b o,h.get? b=some o->h'.get? b=some o) (ne:h.get? e=none) (g:h'.get? e=some oe) (c:oe.cls= .ref C) (d:oe.data= .fields vs) (h1:vs[1]? =some .none) (lt:1 < vs.size)
theorem Fr.turn(f:Fr hh L h₂ m)(k:∀b o,b≠x->h₂.get? b=some o->h₃.get? b=some o)(hx:hh.objs.size<=x)(hn:x≠L):Fr hh L h₃ m:=by
 obtain⟨o,es,ep,gL,r⟩:=f.ns;exact⟨⟨o,es,ep,k _ _ (Ne.symm hn) gL,r⟩,λb o e=>k b o (λq=>by subst q;exact absurd (fL e) (pX.mpr hx)) (f.keep b o e),f.above⟩
theorem N_
  (O:Jr Fa.K Fa.mg C dP fI)(hkind:env.scope.kind= .function)(eL:env.locals=L)(hgm:env.globals=mainGlobals)(hbt:env.builtins=builtinsNs)(ks:env.kindOf ("self":Str)=some .local)(kw:env.kindOf ("what":Str)=some .local)(ka:env.kindOf ("at":Str)=some .local)(Xq:env.kindOf ("Exception":Str)=some .globalImplicit)
  (XK:Fa.K.In hh)(T:TopRead Fa.p Fa.loose Fa.mg Fa.mb hh)
  (hcall:∃pl:Sem Bool,eval (.Call (.Attribute (.Name "Exception" p1) "__init__" p2) [.Name "self" p3, .Name "what" p4] [] p5) env=(do
   let ov <-eval (.Name "Exception" p1) env
   standAt p2.atName
   let(f,first) <-holding [ov] (getMethod ov "__init__" pl)
   callWith p5 f first (backTo p5 (starEach [.Name "self" p3, .Name "what" p4] env)) []))
  (xL:hh.objs.size+1 < L)(qU:Fr hh L s.heap (λy=>([("self",Value.ref (hh.objs.size+1)),("what",u),("at",d)]:List (Str×Value)).reverse.lookup y))
  (HN:s.heap.get? (hh.objs.size+1)=some {cls:= .ref C,data:= .fields #[.ref t0, .none, .none, .none, .bool false, .none]})
  (hQ:∀h' tk e,vR hh h' C e->e=hh.objs.size+1->Q .next {s with heap:=h',toks:=tk}):
  wpAny (model PR G.w) A (execs (E4 p1 p2 p3 p4 p5 p6 p7 p8 p9 yI Ai Ah yH yG) env) Q E s:=by
 refine cps λPP kk=> ?_;obtain⟨cd,hc,hdct,hm⟩:=O.cls;obtain⟨z,TZ⟩:=O.obj;obtain⟨hs,gs,ds,ts,os⟩:=s;have qU:Fr hh L hs _:=qU;have HN:hs.get? (hh.objs.size+1)=_:=HN;subst eL;have nm:∀{A':Around}{Q':Value->Shared->Prop}{E':Value->Shared->Prop}{s':Shared}{x:Str}{v:Value}{pos:Pos},env.kindOf x=some .local->Fr hh env.locals s'.heap (λy=>([("self",Value.ref (hh.objs.size+1)),("what",u),("at",d)]:List (Str×Value)).reverse.lookup y)->
   ([("self",Value.ref (hh.objs.size+1)),("what",u),("at",d)]:List (Str×Value)).reverse.lookup x=some v->(x==("__debug__":Str))=false->Q' v s'->wpAny (model PR G.w) A' (eval (.Name x pos) env) Q' E' s':=λk f e n q=>wpAny_Name (wpAny_loadName_local hkind k f.ns e q) n
 have T:=T.keeps qU.keep;obtain⟨pl,hcl⟩:=hcall;refine kk ?_;clear kk;refine uu (wpAny_Expr_any (MethodCall_ (Name_function_global hkind Xq (loadGlobal_builtin (by rw[hgm];exact T.g) O.noE (by rw[hbt];exact T.b) ((T.builtins "Exception" (by decide)).trans (by rfl)) ?_) (by decide)) hcl) (by show(env.scope.kind== .module&&_)=false;rw[hkind];rfl) (by rfl));refine method_type (K:=Fa.K) qU XK (by kernel_rfl) (by decide+kernel) O.exi (by decide+kernel) ?_;refine callWith_of (P:=λ_=>True) (by rfl) (λh X=>⟨.machine, .inr (.inl rfl),Looks.of_pure rfl⟩) (evalArgs_plain (spliced_more (nm ks qU (by rfl) (by decide) ?_) (by rfl)));refine spliced_more (nm kw qU (by rfl) (by decide) ?_) (by rfl);refine spliced_none ⟨trivial, ?_⟩;refine Oa (qU.keep _ _ (XK _ _ TZ)) HN λh₂ t1 Nk k₂=> ?_;have z_:=Fr.turn qU k₂ (oR _) (jc xL);refine uu (plainObj_wpAny_Assign_Attribute (nm kw z_ (by rfl) (by decide) (nm ks z_ (by rfl) (by decide) ?_)) (by rfl));refine N7 (XK.keeps z_.keep) Nk hc hdct hm O.sa O.what λh₃ tk₃ Ua nD k₃=> ?_;have Dr:=Fr.turn z_ k₃ (oR _) (jc xL);have Zk:env.locals < h₂.objs.size:=by obtain⟨o,es,ep,gL,r⟩:=z_.ns;exact fL gL
 refine uu (plainObj_wpAny_Assign_Attribute (nm ka Dr (by rfl) (by decide) (nm ks Dr (by rfl) (by decide) ?_)) (by rfl));refine N6 (XK.keeps Dr.keep) Ua (jc (fL Nk)) nD hc hdct hm O.sa O.at_ λh₄ tk₄ T_ W9=> ?_;have Vt:=Fr.turn Dr W9 (jz (eG (Nat.le_of_succ_le (jz xL)) Zk)) (um Zk);exact wpAny_execs_nil (hQ h₄ tk₄ _ ⟨_,_,Vt.keep,Heap.get?_none_of_le (oR _),T_,rfl,rfl,rfl,(by decide:1 < 6)⟩ rfl)
theorem N8
  (O:Jr Fa.K Fa.mg C dP fI)(Z:lE G ah fI fx qual scope (E4 p1 p2 p3 p4 p5 p6 p7 p8 p9 yI Ai Ah yH yG) cdv ["self","what","at"] [dd] [d])(hfc:∃fo,ah.get? fI=some fo/\fo.cls= .type "function")
  (ie:∀y ∈ scope.names,y.2≠ .cell)(hloc:∀y ∈ [("self":Str),"what","at"],scope.names.lookup y=some .local)(Xq:scope.names.lookup ("Exception":Str)=some .globalImplicit)
  (hcall:∀env:Env,∃pl:Sem Bool,eval (.Call (.Attribute (.Name "Exception" p1) "__init__" p2) [.Name "self" p3, .Name "what" p4] [] p5) env=(do
   let ov <-eval (.Name "Exception" p1) env
   standAt p2.atName
   let(f,first) <-holding [ov] (getMethod ov "__init__" pl)
   callWith p5 f first (backTo p5 (starEach [.Name "self" p3, .Name "what" p4] env)) []))
  (R:c8 A (N+2))(S:SR G ah F ρ objs X s.heap)(hQ:∀h' tk e,vR s.heap h' C e->Q (.ref e) {s with heap:=h',toks:=tk}):wpAny (model PR G.w) A (call (.ref C) [u]) Q E s:=by
 have XK:=S.vz Fa;have st:ah.StaysIn s.heap:=λb o e=>S.stays b o (S.base b o e);refine cps λPP kk=> ?_;obtain⟨z,TZ⟩:=O.obj;obtain⟨fo,hfo,hd⟩:=Z.MT;obtain⟨fo',Xr,hfc⟩:=hfc;refine kk ?_;clear kk;cases hfo.symm.trans Xr;have hb:=Z.binds;refine cps λPP kk=> ?_;obtain⟨name,params,dV,kV,doc,pm,an,ct,rfl⟩:=Z.is;have T:=S.kY Fa;obtain⟨hh,g,dr,t,os⟩:=s;refine kk ?_;clear kk;refine N9 (XK _ _ TZ) (λ{h'} k=>looks_findIn (λa o e=>k _ _ (XK a o e)) O.init) (st _ _ hfo) hfc (show 1<=sizeLine by decide) ?_;generalize hH:(hh.push {cls:= .type "tuple",data:= .seq [u].toArray}).push {cls:= .ref C,data:= .fields #[.ref hh.objs.size, .none, .none, .none, .bool false, .none]}=H;have sz:H.objs.size=hh.objs.size+2:=by rw[<-hH,rK,rK]
 have up:∀b o,hh.get? b=some o->H.get? b=some o:=λb o e=>hH▸jd _ (jd _ e);have ge:H.get? (hh.objs.size+1)=some {cls:= .ref C,data:= .fields #[.ref hh.objs.size, .none, .none, .none, .bool false, .none]}:=by
  rw[<-hH];have:=oU (hh.push {cls:= .type "tuple",data:= .seq [u].toArray}) (o:={cls:= .ref C,data:= .fields #[.ref hh.objs.size, .none, .none, .none, .bool false, .none]}) rfl
  rwa [rK]at this
 have D9:(A.under (Code.builtin "type.__call__" {pos:= .ref C::[u]})).depth < recursionLimit:=eG (cS (by rw[depth_under_kw];exact iR (by decide) _) (cS (iR (by decide:3<=20) _) (oV (fN _ _) _))) R.2;have st':ah.StaysIn H:=λb o e=>up _ _ (st b o e);refine wpAny_call (codeAny_call_function (s:=⟨H,g,dr,t,os⟩) D9 (st' _ _ hfo) hd Z.co Z.gen rfl (Z.code.keeps st') (hb ⟨H,g,dr,t,os⟩ [_,u] st' rfl _ _ _ _ ?_));refine wpAny_newFunctionEnv ie (λy hy=>hloc _ (List.of_mem_zip hy).1) (λh₁ hns EJ=> ?_) Z.kind;have lq:∀b o,H.get? b=some o->h₁.get? b=some o:=λb o e=>EJ.extBut b o (jc (fL e)) (jd _ e);refine⟨(Fa.vj.keeps st').keeps lq,codeAny_func ?_⟩;exact N_ (env:=envX qual scope H.objs.size fI cdv []) O Z.kind rfl rfl rfl (hloc _ (.head _)) (hloc _ (.tail _ (.head _))) (hloc _ (.tail _ (.tail _ (.head _)))) Xq XK T (hcall _) (by rw[sz];exact Nat.lt_succ_self _) ⟨hns,λb o e=>lq _ _ (up _ _ e),by rw[sz];exact fN _ _⟩ (lq _ _ ge) λh' tk e n q=>⟨rfl,q▸hQ h' tk e n⟩
end
section
variable{G:Gd}{ah:Heap}{Fa:aP G ah}{N:Nat}{F:FZ}{ρ:List Addr}{objs:az}{X:List (Addr×Obj)}{h:Heap}{cx:Cx}
inductive I5(z:XC)(C dP:Addr)(E:Value->Shared->Prop)(v:Value)(s:Shared):Prop
 |mk (e:Addr) (oe:Obj) (vs:Array Value) (ev:v= .ref e) (hC:s.heap.get? C=some (qZ z C dP)) (g:s.heap.get? e=some oe) (c:oe.cls= .ref C) (d:oe.data= .fields vs) (h1:vs[1]? =some .none) (k:E (.ref e) s)
theorem yf(hh:A.handled=none)(hx:wpAny M A x (I5 z C dP E) E s):wpAny M A (raiseStmt env (some x) none) Q E s:=by
 have PM:(Value.ref C::i8 dP).contains (.type "BaseException")=true:=rN (by decide+kernel);unfold raiseStmt;refine bf (pW hx (λv s₁ h₁=> ?_) λZ Z x=>x);obtain⟨e,⟨oc,odi,oda,osl⟩,vs,rfl,hC,he,hc,hd,h1,hE⟩:=h₁;dsimp only at hc hd;subst hc hd;obtain⟨hp,g,d,tk,os⟩:=s₁;have hf:∀{Q':Value->Shared->Prop}{E':Value->Shared->Prop}{A':Around},Q' .none ⟨hp,g,d,tk,os⟩->wpAny M A' (field (.ref e) 1) Q' E' ⟨hp,g,d,tk,os⟩:=λhq=>nS he rfl h1 hq
 repeat (first |with_reducible refine uw he ?_ |with_reducible refine uw hC ?_ |(with_reducible refine wpAny_isSubtype_exc hC ?_;rw[PM]) |with_reducible refine hf ?_ |wp_step)
 exact wpAny_raiseNew_none hh hE
noncomputable def D.isStr(d:D):Bool:=d.DJ.isSome
noncomputable def fy(x:Ex)(fs:ug):DS:=λloc o=>(fs loc o).bind λvs o=>bx (NK vs) λ_=> .exc x o
noncomputable def vQ(Fa:aP G ah)(N:Nat)(C:Addr):Prop:=∀(A:Around)(s:Shared)(F:FZ)(ρ:List Addr)(objs:az)(X:List (Addr×Obj))(Q:Value->Shared->Prop)(E:Value->Shared->Prop)(u:Value),c8 A N->SR G ah F ρ objs X s.heap->
 (∀h' tk e,vR s.heap h' C e->Q (.ref e) {s with heap:=h',toks:=tk})->wpAny (model PR G.w) A (call (.ref C) [u]) Q E s
noncomputable abbrev uH(X:List (Addr×Obj)):List Addr:=(X.filter nO).map (λZ=>Z.1)
theorem SR.below(S:SR G ah F ρ objs X h):SR G ah F ρ objs (X.filter λp=> !nO p) (hideAll h (uH X)):=by
 have out:∀{b:Addr},b ∈ uH X->∃p ∈ X,nO p=true/\p.1=b:=λq=>let⟨p,hp,e⟩:=mM q;⟨p,(iE.mp hp).1,(iE.mp hp).2,e⟩;refine⟨S.base,λa o e=>nR _ (S.stays a o e) λq=> ?_,S.len,λi x e n=>(S.obj i x e n).to λa o h1 h2=>nR _ h2 λq=> ?_,S.inj,λp hp=> ?_,λp hp=>S.apart p (iE.mp hp).1,S.nodup.sublist (rL.map _)⟩
 ·obtain⟨p,hp,_,rfl⟩:=out q;rw[S.lC p hp]at e;cases e
 ·clear h2;obtain⟨p,hp,_,rfl⟩:=out q;exact S.apart p hp i x e n h1
 ·obtain⟨m1,m2⟩:=iE.mp hp;have m2:nO p=false:=Bool.not_eq_true' _▸m2;refine⟨.of (nR _ (S.ext p m1 m2).1 λq=> ?_),S.lC p m1⟩;obtain⟨q',hq,n2,e⟩:=out q;rw[vm S.nodup hq m1 e,m2]at n2;cases n2
theorem iO.fun(H:iO A X)(S:SR G ah F ρ objs X h){h':Heap}(k:∀b o,h.get? b=some o->h'.get? b=some o):∃l,A.frames=some l/\h'.FunFrames (hideAll h (uH X)) l:=H.rec λl e r=>by
 refine⟨l,e, ?_⟩;clear e
 induction l with
 |nil=>trivial
 |cons env l ih=>exact(r env (.head _)).rec λk1 L o f1 f2 f3=>let⟨o',g,gd⟩:=S.zB f2;⟨k1,⟨L,o',f1,hideAll_none _ (cX.mpr ⟨_,iE.mpr ⟨f2,f3⟩,rfl⟩),k _ _ g,λvs q=>A8 f3 vs (gd.symm.trans q)⟩,ih λe he=>r e (.tail _ he)⟩
theorem vR.fl(n:vR h h' (Fa.j4 x) e)(S:SR G ah F ρ objs X h)(X':iO A X):Fl G ah Fa.j4 A F ρ objs X x (.ref e) h':=n.rec λoe vs kp ne g c d h1 lt=>by
 obtain⟨l,el,ff⟩:=X'.fun S kp;refine⟨hideAll h (uH X),l,e,rfl,el, ?_,ff,λb o e=>kp _ _ (of_hideAll _ e),S.below,λp hp hn=>⟨hideAll_none _ (cX.mpr ⟨p,iE.mpr ⟨hp,hn⟩,rfl⟩),(S.jw p hp).1.rec λsl g Z=>⟨sl,kp _ _ g⟩⟩, .own vs[0] oe vs g c d h1 lt (Array.getElem?_eq_getElem _)⟩;cases q:(hideAll h (uH X)).get? e with
 |none=>rfl
 |some o=>exact absurd ((of_hideAll _ q).symm.trans ne) (λq=>by cases q)
theorem I0(O:Jr Fa.K Fa.mg (Fa.j4 x) dP fI)(hm:vQ Fa N (Fa.j4 x))(hk:keepIn Fa.K (.ref (Fa.j4 x))=true)(hg:SG Fa cx fn (.ref (Fa.j4 x)))(ha:zW Fa N cx es fs)(hst:es.all noStar=true)(hs:mP fn es cpos cx.en):
  S1 Fa N cx (.Raise (some (.Call fn es [] cpos)) none pos) (fy x fs):=λA s loc objs F ρ X Q E R X' S L P=>by
 obtain⟨z,TZ⟩:=O.obj;rw[arm_exec_Raise];refine bf (uo ?_);show wpAny _ _ (raiseStmt cx.en (some (do let v <-eval (.Call fn es [] cpos) cx.en;standAt pos;pure v)) none) _ _ _;refine yf (C:=Fa.j4 x) (dP:=dP) (z:=z) R.1 (bf (Call_ (hg A s F ρ objs X _ E S (pP (first:=[]) (qS hk) hst (ha A s loc objs F ρ X _ E cpos R X' S L (bY.next P λus vs o F' ρ' h' tk f1 p1 S1 w1 P1=> ?_)))) hs));rcases vs with _ |⟨v,_ |_⟩<;>first |exact P1.elim |skip
 refine w1.rec λu us' e' w e2=> ?_;clear w1 p1 f1 P L S ρ F objs loc hs hst ha hg;subst e';cases e2;exact⟨S1.vz Fa,hm A _ F' ρ' o X _ E u R S1 λh₂ tk₂ e₂ n=>bf (uo (dz (n.rec λoe vs kp ne g c d h1 lt=>⟨e₂,oe,vs,rfl,kp _ _ (S1.vz Fa _ _ TZ),g,c,d,h1,P1 (.ref e₂) F' ρ' X h₂ tk₂ (Sub.refl _) (fc _) (XS.refl _ _) (vR.fl ⟨oe,vs,kp,ne,g,c,d,h1,lt⟩ S1 X')⟩)))⟩
theorem v5
  (hC:s.heap.get? C=some (qZ z C dP))(ZE:s.heap.get? C'=some (qZ z' C' P₁))(he:s.heap.get? e=some oe)(hcls:oe.cls= .ref C)(hb:(Value.ref C::i8 dP).contains (.ref C')=b)(hq:Q b s):wpAny M A (excMatches (.ref e) (.ref C')) Q E s:=by
 have PM:(Value.ref C'::i8 P₁).contains (.type "BaseException")=true:=rN (by decide+kernel);have f:=tc_notTuple;obtain⟨hp,g,d,tk,os⟩:=s;unfold excMatches
 repeat (first |(with_reducible refine uw he ?_;rw[hcls]) |with_reducible refine uw ZE ?_ |(with_reducible refine wpAny_isSubtype_exc ZE ?_;rw[PM]) |(with_reducible refine wpAny_isSubtype_exc hC ?_;rw[hb]) |wp_step)
 rcases b with _ |_<;>(wp_walk;exact hq)
theorem A4
  (hfr:A.frames=some (env::outer))(hl:s.heap.FunFrames base (env::outer))(hf:env.frame=some L)(he:s.heap.get? e=some oe)(hkb:base.StaysIn s.heap)(hen:base.get? e=none)(hd:oe.data= .fields vs)(h1:vs[1]? =some .none)(h0:vs[0]? =some a0)
  (hQ:∀h',Heap.HeldW base (env::outer) e oe.cls a0 L h'->s.heap.UpToSlots h'->Q () {s with heap:=h'}):wpAny M A (noteFrame (.ref e) env) Q E s:=by
 unfold noteFrame;simp only[hf];refine bf (nS he hd h1 ?_);rw[aZ (by decide)];exact wpAny_entryW hfr hl hf he hkb hen hd (Array.getElem?_eq_some_iff.mp h1).1 h0 λh' ⟨x1,x2,x3,x4⟩=>hQ h' ⟨x1,hen,x2,x3⟩ x4
theorem SR.land{base:Heap}(S:SR G ah F ρ objs (X.filter λp=> !nO p) base)(st:base.StaysIn h)(k:∀p ∈ X,nO p=true->base.get? p.1=none/\∃sl,h.get? p.1=some {p.2 with slots:=sl})(nd:(X.map (λZ=>Z.1)).Nodup):SR G ah F ρ objs X h:=by
 have dn:∀{a:Addr}{o:Obj},base.get? a=none->base.get? a≠some o:=λn e=>by rw[n]at e;cases e
 refine⟨S.base,λa o e=>st _ _ (S.stays a o e),S.len,λi x e n=>(S.obj i x e n).to λa o Z=>st _ _,S.inj,λp hp=> ?_,λp hp i x e n q=> ?_,nd⟩
 ·cases hm:nO p with
  |false=>
   have:=S.ext p (iE.mpr ⟨hp,by rw[hm];rfl⟩) hm;exact⟨.of (st _ _ this.1),this.2⟩
  |true=>
   obtain⟨n,sl,g⟩:=k p hp hm;refine⟨⟨sl,g,λq=>by rw[hm]at q;cases q⟩, ?_⟩;cases e:F.1 p.1 with
   |none=>rfl
   |some o=>exact absurd (S.stays _ _ e) (dn n)
 ·cases hm:nO p with
  |false=>exact S.apart p (iE.mpr ⟨hp,by rw[hm];rfl⟩) i x e n q
  |true=>
   obtain⟨⟨o,h2,_⟩,_⟩:=S.addr e n q;exact absurd h2 (dn (k p hp hm).1)
end
noncomputable def oY:aR V->aR V
 | .ok _ o=> .ok (.d (.str "")) o
 | .exc x o=> .ok (.d (.str (match x with | .tree=>"tree" | .i_=>"draft"))) o
 | .stuck=> .stuck
noncomputable def gQ(i j:Nat)(fe:DE):DE:=λloc o=>bz (vC o i j) (oY (Bc o (fe loc o)))
noncomputable abbrev B9(k1 k2 k3:Nat)(p1 p2 p3 p4 p5 p6 p7 p8 p9 yI Ai Ah yH yG Jw Kp Ko F7 F6:Pos):List Stmt:=[
 .Assign [.Name "caught" p1] (.Constant (.str "") k1 p2) p3,
 .Try [.Expr (.Call (.Name "work" p4) [] [] p5) p6] [.ExceptHandler (some (.Name "TreeFault" p7)) none [.Assign [.Name "caught" p8] (.Constant (.str "tree") k2 p9) yI] Ai,
  .ExceptHandler (some (.Name "DraftFault" Ah)) none [.Assign [.Name "caught" yH] (.Constant (.str "draft") k3 yG) Jw] Kp] [] [] Ko,
 .Return (some (.Name "caught" F7)) F6]
noncomputable def RU:Nat->Option Str
 | 0=>some "work"
 | 1=>some "caught"
 |_=>none
theorem qe(e:RU i=some x):(i=0/\x="work")\/(i=1/\x="caught"):=by
 rcases i with _ |_ |i
 ·cases e;exact .inl ⟨rfl,rfl⟩
 ·cases e;exact .inr ⟨rfl,rfl⟩
 ·cases e
noncomputable abbrev xT(qual:Str)(scope:Scope)(L fa:Addr)(cdv:Value):Cx:=⟨envX qual scope L fa cdv [],RU,[L]⟩
theorem OD(hkind:scope.kind= .function):oQ (xT qual scope L fa cdv)where
 kind:=hkind
 glob:=rfl
 blt:=rfl
 names i x e:=by rcases qe e with⟨_,rfl⟩ |⟨_,rfl⟩<;>exact⟨by decide,by decide⟩
 inj i j x a b:=by rcases qe a with⟨rfl,rfl⟩ |⟨rfl,rfl⟩<;>rcases qe b with⟨rfl,e⟩ |⟨rfl,e⟩<;>first |rfl |exact absurd e (by decide)
 Il x y c a:=by cases a
 Em x c a:=by cases a
 sub a ha:=by rw[dQ.mp ha];exact .head _
 KR:= .head _
structure We{G:Gd}{ah:Heap}(Fa:aP G ah):Prop where
 o1:∃z dP,Fa.K.lookup (Fa.j4 .tree)=some (qZ z (Fa.j4 .tree) dP)
 o2:∃z dP,Fa.K.lookup (Fa.j4 .i_)=some (qZ z (Fa.j4 .i_) dP)/\(Value.ref (Fa.j4 .i_)::i8 dP).contains (.ref (Fa.j4 .tree))=false
 m1:Fa.mg "TreeFault"=some (.ref (Fa.j4 .tree))
 m2:Fa.mg "DraftFault"=some (.ref (Fa.j4 .i_))
structure BO(scope:Scope):Prop where
 kind:scope.kind= .function
 hw:scope.names.lookup ("work":Str)=some .local
 hc:scope.names.lookup ("caught":Str)=some .local
 ht:scope.names.lookup ("TreeFault":Str)=some .globalImplicit
 hdr:scope.names.lookup ("DraftFault":Str)=some .globalImplicit
section
variable{G:Gd}{ah:Heap}{Fa:aP G ah}{N:Nat}{F:FZ}{ρ:List Addr}{objs:az}{X:List (Addr×Obj)}{h:Heap}{cx:Cx}
noncomputable abbrev zZ(G:Gd)(ah:Heap)(F:FZ)(ρ:List Addr)(X:List (Addr×Obj))(s:Shared)(Q:Value->Shared->Prop):aR V->Prop
 | .ok v o'=>∀u eY dS X3 h₃ tk₃,Sub F eY->ρ <+:dS->(∀p ∈ X,p ∈ X3)->SR G ah eY dS o' X3 h₃->WR G eY dS v u->Q u {s with heap:=h₃,toks:=tk₃}
 |_=>False
theorem Ff(Fa:aP G ah){Q:Value->Shared->Prop}(ok:oQ (xT qual scope L fa cdv))(RA:c8 A N)(FA:iO A X3)(S:SR G ah F ρ objs X3 s.heap)(L5:aW G F ρ (xT qual scope L fa cdv) X3 [a,some (.d (.str w))])
  (P:∀u eY dS X4 h₃ tk₃,Sub F eY->ρ <+:dS->XS [L] X3 X4->SR G ah eY dS objs X4 h₃->WR G eY dS (.d (.str w)) u->Q u {s with heap:=h₃,toks:=tk₃}):
  wpAny (model PR G.w) A (execs [.Return (some (.Name "caught" F7)) F6] (xT qual scope L fa cdv).en) (λfl s'=>∃u,fl= .ret u/\Q u s') E0 s:=
 uu (IZ (Fa:=Fa) (N:=N) (zV (i:=1) ok.toCxOk rfl) A s _ objs F ρ X3 _ _ RA FA S L5 λu eX ya X4 h₄ tk₄ f4 p4 x4 S6 w6=>⟨u,rfl,P u eX ya X4 h₄ tk₄ f4 p4 x4 S6 w6⟩)
theorem Fl.noted(fl:Fl G ah Fa.j4 A F ρ objs X x e s.heap)(Ux:A.frames=some (env::outer))(hf:env.frame=some L)
  (hQ:∀base b a0 h',e= .ref b->base.StaysIn s.heap->SR G ah F ρ objs (X.filter λp=> !nO p) base->(∀p ∈ X,nO p=true->base.get? p.1=none/\∃sl,s.heap.get? p.1=some {p.2 with slots:=sl})->Heap.HeldW base (env::outer) b (.ref (Fa.j4 x)) a0 L h'->s.heap.UpToSlots h'->Q () {s with heap:=h'}):wpAny (model PR G.w) A (noteFrame e env) Q E s:=
 fl.rec λbase l b he e1 nb ff sb Sb vB tr=>by
  clear fl;subst he;cases Ux.symm.trans e1;exact tr.rec (λa0 t=>wpAny_looks_onW Ux hf ⟨sb,nb,ff,t⟩ λh' a c=>hQ base b a0 h' rfl sb Sb vB a c) λa0 oe vs t1 t2 t3 t4 t5 t6=>A4 Ux ff hf t1 sb nb t3 t4 t6 λh' a c=>hQ base b a0 h' rfl sb Sb vB (t2▸a) c
theorem AD{X:List (Addr×Obj)}
  (XO:We Fa)(Z:BO c9)(RA:c8 A N)(FA:iO A X2)(hin:∀p ∈ X,p ∈ X2)(hL:∀p ∈ X,p.1≠L)(hfr:∃outer,A.frames=some ((xT iI c9 L fa mF).en::outer))
  (S:SR G ah F ρ objs X2 s.heap)(hl:aW G F ρ (xT iI c9 L fa mF) X2 [some (.lam f),none])(hfn:∃o fd,F.1 f=some o/\o.data= .func fd)
  (work:∀(cK:FZ)(bC:List Addr)(X3:List (Addr×Obj))(h₂:Heap)(tk:Nat)(Q':Value->Shared->Prop)(E':Value->Shared->Prop),Sub F cK->ρ <+:bC->(∀p ∈ X,p ∈ X3)->iO A X3->SR G ah cK bC objs X3 h₂->aS Fa (WR G) A cK bC X3 {s with heap:=h₂,toks:=tk} Q' E' res->
   wpAny (model PR G.w) A (call (.ref f) []) Q' E' {s with heap:=h₂,toks:=tk})
  (P:zZ G ah F ρ X s Q (oY res)):
  wpAny (model PR G.w) A (execs (B9 k1 k2 k3 p1 p2 p3 p4 p5 p6 p7 p8 p9 yI Ai Ah yH yG Jw Kp Ko F7 F6) (xT iI c9 L fa mF).en) (λfl s'=>∃u,fl= .ret u/\Q u s') E0 s:=by
 have Sj:oQ (xT iI c9 L fa mF):=OD Z.kind;have own:∀p ∈ X,p.1 ∉ (xT iI c9 L fa mF).own:=λp hp q=>hL p hp (dQ.mp q);obtain⟨outer,Ux⟩:=hfr;refine uu (qF (Fa:=Fa) (N:=N) (i:=1) Sj rfl (.inl Z.hc) NS rfl A s [some (.lam f),none] objs F ρ X2 _ _ RA FA S hl ?_);intro cK bC X3 h₂ tk₂ f2 p2 x2 S4 L4;have Xe:∀p ∈ X,p ∈ X3:=λp hp=>x2.keep p (hin p hp) (own p hp);have Wj:=x2.Np _ FA;refine uu (wpAny_Try_except ?_);refine uu (wpAny_Expr_any (Call_ (zV (Fa:=Fa) (N:=N) (i:=0) Sj.toCxOk rfl A {s with heap:=h₂,toks:=tk₂} _ objs cK bC X3 _ _ RA Wj S4 L4 ?_) (by rfl)) (by show(c9.kind== .module&&_)=false;rw[Z.kind];rfl) (by rfl));intro u eY dS h₃ tk₃ f3 p3 S5 w5;cases w5;have dH:FnAt f h₃:=by
  obtain⟨⟨oc,od,oda,sl⟩,fd,g,d⟩:=hfn;cases d;exact⟨oc,od,fd,sl,S5.stays _ _ (f3.1 _ _ (f2.1 _ _ g))⟩
 refine callWith_F0 (s:={s with heap:=h₃,toks:=tk₃}) dH ?_;refine work eY dS X3 h₃ tk₃ _ _ (f2.trans f3) (p2.trans p3) Xe Wj S5 ?_;have L5:=L4.mono f3 p3;cases res with
 |stuck=>exact P.elim
 |ok v o'=>
  exact λu eX ya h₄ tk₄ f4 p4 S6 w6=>wpAny_execs_nil (wpAny_execs_nil (Ff Fa (s:={s with heap:=h₄,toks:=tk₄}) Sj RA Wj S6 (L5.mono f4 p4) λu z9 x_ X5 h₅ tk₅ f5 p5 x5=>P u z9 x_ X5 h₅ tk₅ (f2.trans (f3.trans (f4.trans f5))) (p2.trans (p3.trans (p4.trans p5))) λp hp=>x5.keep p (Xe p hp) (own p hp)))
 |exc y o'=>
  intro e eX ya h₄ tk₄ f4 p4 fl;refine fl.noted (s:={s with heap:=h₄,toks:=tk₄}) Ux rfl λbase b a0 h₅ eb sb Sb vB held sm=> ?_;clear work;subst eb;have T:TopRead Fa.p Fa.loose Fa.mg Fa.mb base:=Sb.kY Fa;have KB:Fa.K.In base:=Sb.vz Fa;refine wpAny_landsW (s:={s with heap:=h₅,toks:=tk₄}) held λh₆ EK Y6=> ?_;have ends:∀(w:Str)(nG:Heap)(kk:Nat)(q1 q2 q3:Pos)(E':Value->Shared->Prop),Heap.FlyingW base ((xT iI c9 L fa mF).en::outer) b (.ref (Fa.j4 y)) a0 nG->h₄.UpToSlots nG->zZ G ah F ρ X s Q (.ok (.d (.str w)) o')->
    wpAny (model PR G.w) (A.mark (some (.ref b))) (execs [.Assign [.Name "caught" q1] (.Constant (.str w) kk q2) q3] (xT iI c9 L fa mF).en) (λXF s'=>match XF with | .next=>wpAny (model PR G.w) A (execs [.Return (some (.Name "caught" F7)) F6] (xT iI c9 L fa mF).en) (λfl s'=>∃u,fl= .ret u/\Q u s') E0 s' |f=>∃u,f= .ret u/\Q u s') E' {s with heap:=nG,toks:=tk₄}:=by
   intro w nG kk q1 q2 q3 E' Uh RY P;have S7:SR G ah eX ya o' X3 nG:=Sb.land Uh.1 (λp hp hm=>by
    obtain⟨n,sl,g⟩:=vB p hp hm;obtain⟨WG,g'⟩:=RY _ _ g (A8 hm);exact⟨n,WG,g'⟩) S5.nodup
   refine uu (wpAny_Assign_Name (wpAny_Constant_str (yq (s:={s with heap:=nG,toks:=_}) (i:=1) (v:= .d (.str w)) Sj rfl (.inl Z.hc) S7 (L5.mono f4 p4) ⟨_,rfl⟩ λX4 zh RN x4 S8 L8=>wpAny_execs_nil ?_)) (by rfl));exact Ff Fa (s:={s with heap:=zh,toks:=RN}) Sj RA (x4.Np _ Wj) S8 L8 λu z9 x_ X5 h₅ tk₅ f5 p5 x5=>P u z9 x_ X5 h₅ tk₅ (f2.trans (f3.trans (f4.trans f5))) (p2.trans (p3.trans (p4.trans p5))) λp hp=>x5.keep p (x4.keep p (Xe p hp) (own p hp)) (own p hp)
  have Gx:∀{A':Around}{Q':Value->Shared->Prop}{E':Value->Shared->Prop}{s':Shared}{x:Str}{v:Value}{q:Pos},base.StaysIn s'.heap->c9.names.lookup x=some .globalImplicit->(x==("__debug__":Str))=false->Fa.mg x=some v->Q' v s'->wpAny (model PR G.w) A' (eval (.Name x q) (xT iI c9 L fa mF).en) Q' E' s':=λst hk hn hm hq=>
   Name_function_global Z.kind hk (loadGlobal_global (T.keeps st).g hm hq) hn
  refine cps λPP kk=> ?_;obtain⟨oe,Xs,Xu⟩:=EK.there;obtain⟨z1,P₁,Xz⟩:=XO.o1;obtain⟨z2,P₂,Xy,hno⟩:=XO.o2;refine kk ?_;clear kk;cases y with
  |tree=>
   refine wpAny_handleBy_cons (codeAny_handlers_test (Gx (s':={s with heap:=h₆,toks:=tk₄}) EK.1 Z.ht (by decide) XO.m1 ?_)) (by intro q;cases q);refine v5 (s:={s with heap:=h₆,toks:=tk₄}) (EK.1 _ _ (KB _ _ Xz)) (EK.1 _ _ (KB _ _ Xz)) Xs Xu (b:=true) (by rw[List.contains_cons,lQ];rfl) (codeAny_handlers_suite ?_);refine lands_againW (s:={s with heap:=h₆,toks:=tk₄}) EK λnG Uh RY=> ?_;exact pW (ends "tree" nG k2 p8 p9 yI _ Uh ((sm.trans Y6).trans RY) P) (λXF s' hq=>hq) λ_ _ h=>h
  |i_=>
   refine wpAny_handleBy_cons (codeAny_handlers_test (Gx (s':={s with heap:=h₆,toks:=tk₄}) EK.1 Z.ht (by decide) XO.m1 ?_)) (by intro q;cases q);refine v5 (s:={s with heap:=h₆,toks:=tk₄}) (EK.1 _ _ (KB _ _ Xy)) (EK.1 _ _ (KB _ _ Xz)) Xs Xu (b:=false) hno ?_;refine wpAny_handleBy_cons (codeAny_handlers_test (Gx (s':={s with heap:=h₆,toks:=tk₄}) EK.1 Z.hdr (by decide) XO.m2 ?_)) (by intro q;cases q);refine v5 (s:={s with heap:=h₆,toks:=tk₄}) (EK.1 _ _ (KB _ _ Xy)) (EK.1 _ _ (KB _ _ Xy)) Xs Xu (b:=true) (by rw[List.contains_cons,lQ];rfl) (codeAny_handlers_suite ?_);refine lands_againW (s:={s with heap:=h₆,toks:=tk₄}) EK λnG Uh RY=> ?_;exact pW (ends "draft" nG k3 yH yG Jw _ Uh ((sm.trans Y6).trans RY) P) (λXF s' hq=>hq) λ_ _ h=>h
end
section
variable{G:Gd}{ah:Heap}{Fa:aP G ah}{N:Nat}{F:FZ}{ρ:List Addr}{objs:az}{X:List (Addr×Obj)}{h:Heap}{cx:Cx}
structure Qv(G:Gd)(ah:Heap)(Fa:aP G ah)(N:Nat)(cx:Cx)(params:Arguments)(body:PySem.Expr)(scope:Scope)(dD:Nat->Option Str)(j:Nat)(fe:DE):Prop where
 at_:Dk G ah cx params j
 ok:Dj scope [] dD
 free:∀y ∈ scope.names,y.2= .free->cx.en.kindOf y.1=some .cell
 oX:∀i x,dD i=some x->cx.vis i=some x/\scope.names.lookup x=some .free
 bind:∀clos pm cdv ctv,bindArgs (kla_fn "<lambda>" (G.qd j) params body scope clos pm cdv ctv) ⟨[],[]⟩=pure []
 hbody:∀L f cdv clos,SE Fa N (yX scope (G.qd j) L f cdv clos dD) body fe
theorem zZ.of(P:aS Fa (WR G) A F ρ X s Q E (oY r))(f:Sub F F')(nd:(X.map (λZ=>Z.1)).Nodup)(hs:∀h tk,{s with heap:=h,toks:=tk}={s' with heap:=h,toks:=tk}):zZ G ah F' ρ X s' Q (oY r):=by
 cases r with
 |stuck=>exact P
 |ok v o=>exact λu eY dS X3 h₃ tk₃ f3 p3 Ro S5 w5=>hs h₃ tk₃▸P u eY dS h₃ tk₃ (f.trans f3) p3 (S5.sub Ro nd) w5
 |exc x o=>exact λu eY dS X3 h₃ tk₃ f3 p3 Ro S5 w5=>hs h₃ tk₃▸P u eY dS h₃ tk₃ (f.trans f3) p3 (S5.sub Ro nd) w5
theorem LV
  (XO:We Fa)(ok:oQ cx)(hg:SG Fa cx fn (.ref fa))(hk:keepIn Fa.K (.ref fa)=true)(Z:lE G ah fa fx iI c9 (B9 k1 k2 k3 p1 p2 p3 p4 p5 p6 p7 p8 p9 yI Ai Ah yH yG Jw Kp Ko F7 F6) mF ["work"] [] [])
  (ZT:BO c9)(ie:∀y ∈ c9.names,y.2≠ .cell)(z:Qv G ah Fa N cx params body scope dD j fe)(hs:mP fn [.Lambda params body scope GN] pos cx.en):
  SE Fa (N+3) cx (.Call fn [.Lambda params body scope GN] [] pos) (gQ i j fe):=λA s loc objs F ρ X Q E R X' S L P=>by
 obtain⟨hi,P⟩:=P.bz;obtain⟨clos,hc⟩:=tS (scope:=scope) (env:=cx.en) λy hy hf=>(L.has.cell y.1 (z.free y hy hf)).rec λc _ _ h _ _=>⟨c,h⟩;have T:=S.kY Fa;refine Call_ (hg A s F ρ objs X _ E S (pP (first:=[]) (qS hk) rfl (spliced_more (CE Fa S ok.glob z.at_ hc.run (zc hi) λf pm cdv ctv F₁ h₀ tk₀ f1 S1 gf hcd=>spliced_none ⟨S1.vz Fa, ?_⟩) rfl))) hs;have st:ah.StaysIn h₀:=λb o e=>S1.stays b o (S1.base b o e);refine cps λPP kk=> ?_;obtain⟨fo,hfo,hd⟩:=Z.MT;have hb:=Z.binds;obtain⟨name,params2,dV,kV,doc,pm2,an,ct,rfl⟩:=Z.is;refine kk ?_;clear kk;refine wpAny_call (codeAny_call_function (s:={s with heap:=h₀,toks:=tk₀}) (eG (cS (fN _ _) (fN _ _)) R.2) (st _ _ hfo) hd Z.co Z.gen rfl (Z.code.keeps st) (hb {s with heap:=h₀,toks:=tk₀} [.ref f] st rfl _ _ _ _ ?_));refine wpAny_newFunctionEnv ie (λy hy=>by rw[dQ.mp hy];exact ZT.hw) (λh₁ hns EJ=> ?_) Z.kind;have hk₁:∀b o,h₀.get? b=some o->h₁.get? b=some o:=λb o e=>EJ.extBut b o (jc (fL e)) (jd _ e);refine⟨(Fa.vj.keeps st).keeps hk₁,codeAny_func ?_⟩;refine cps λPP kk=> ?_;obtain⟨oL,es,ep,g1,g2,g3,g4⟩:=hns;refine kk ?_;clear kk;have MO:∀vs,oL.data≠ .fields vs:=λvs q=>by rw[g2]at q;cases q
 have S3:SR G ah F₁ ρ objs ((h₀.objs.size,pq oL)::X) h₁:=(S1.turn hk₁).CN (.mk g1 MO) S1.br (S1.Eg (Nat.le_refl _)) (S1.pH (Nat.le_refl _));have has:Dq (xT iI c9 h₀.objs.size fa mF) ((h₀.objs.size,pq oL)::X):=⟨⟨pq oL,es,ep, .head _,g2,g3⟩,λy hy=>absurd rfl (ie _ (bX hy)),λb hb=>(cN.mp hb).elim (λq=>q▸ .head _) λq=>by cases q⟩;have hl:aW G F₁ ρ (xT iI c9 h₀.objs.size fa mF) ((h₀.objs.size,pq oL)::X) [some (.lam f),none]:=by
  refine⟨λi x v hx hv'=> ?_,has⟩;rcases i with _ |_ |i
  ·cases hx;cases hv';exact⟨.ref f, .loc ZT.hw (pq oL) es ep (.head _) g2 g3 ((g4 _).trans rfl),rfl⟩
  ·cases hv'
  ·cases hx
 refine pW (AD (N:=N+2) (A:=A.deeper (xT iI c9 h₀.objs.size fa mF).en) (X:=X) (f:=f) (Q:=λv s'=>Q v s') (E0:=λe s'=>wpAny (model PR G.w) (A.deeper (xT iI c9 h₀.objs.size fa mF).en) (leaving (xT iI c9 h₀.objs.size fa mF).en e) (λ_ s''=>E e s'') (λe' s''=>E e' s'') s') (res:=Bc objs (fe loc objs))
  (s:={s with heap:=h₁,toks:=tk₀+1}) XO ZT R.deep (X'.deep (Xc:=[]) Z.kind rfl (mZ MO)) (λp hp=> .tail _ hp) (S1.pH (Nat.le_refl _)) (X'.rec λl₀ el rl=>⟨l₀,Around.frames_deeper el⟩) S3 hl ⟨_,_,gf,rfl⟩
  (λcK bC X3 h₂ tk Q' E' f2 p2 Ro fa3 S5 P5=> ?_) (zZ.of P f1 S.nodup λ_ _=>rfl)) (λfl s' hq=>by obtain⟨u,rfl,hq⟩:=hq;exact hq) λ_ _ h=>h
 have L1:=(L.mono f1 (fc _)).mono f2 p2;refine yW (N:=N) (ρ:=bC) (loc:=loc) (s:={s with heap:=h₂,toks:=tk}) (fe:=fe) (f2.1 _ _ gf) (hcd.bE f2.1) z.ok (λp hp=> ?_) (z.bind clos pm cdv ctv) (λi x v hx hv=> ?_) (λL=>z.hbody L _ _ clos) (R.deep.less (oR _)) fa3 S5 P5
 ·obtain⟨q,hq,e⟩:=mM (L.has.own _ (jr (hc.all _ hp)));exact cX.mpr ⟨q,Ro q hq,e⟩
 ·obtain⟨hx1,Zv⟩:=z.oX i x hx;obtain⟨u,vx,w⟩:=L1.vars i x v hx1 hv;have mx:=bX Zv;exact vx.rec (λk _ _ _ _ _ _ _=>by rw[z.free _ mx rfl]at k;cases k) λc₁ o₁ k hl hm hd=> .free Zv c₁ o₁ u ((hc.has _ mx rfl).trans hl) (Ro _ hm) hd w
end
noncomputable def V.hs:V->List Nat
 | .h n=>[n]
 | .bV t r=>t::r.hs
 | .pair a b=>a.hs++b.hs
 |_=>[]
noncomputable def V.Ag(f:Nat->Nat):V->V
 | .h n=> .h (f n)
 | .bV t r=> .bV (f t) (r.Ag f)
 | .pair a b=> .pair (a.Ag f) (b.Ag f)
 |v=>v
noncomputable def fS(acc:List Nat):List Nat->List Nat
 | []=>acc
 |n::r=>fS (if acc.contains n=true then acc else acc++[n]) r
noncomputable def idxOf(args:List V):List Nat:=fS [0,1] (args.flatMap V.hs)
noncomputable def l8{α:Type}(o:List α):List Nat->Option (List α)
 | []=>some []
 |i::r=>o[i]?.bind λx=>(l8 o r).map (λZ=>x::Z)
noncomputable def AW:List Nat->az->az->az
 | [],o,xs=>o++xs
 |i::r,o,xs=>match xs with
  | []=>o
  |x::xs=>AW r (o.set i x) xs
noncomputable def Er(n:Nat)(idx:List Nat)(p:Nat):Nat:=match idx[p]? with
 |some i=>i
 |none=>n+(p - idx.length)
noncomputable def rF(o:az)(idx:List Nat):aR V->aR V
 | .ok v o'=> .ok (v.Ag (Er o.length idx)) (AW idx o o')
 | .exc x o'=> .exc x (AW idx o o')
 | .stuck=> .stuck
noncomputable def aH.aY:aH->Bool
 | .pin y=>y.flat
 |_=>true
noncomputable def CR(g:List V->az->aR V)(args:List V)(o:az)(idx:List Nat):aR V:=bx (l8 o idx) λo'=>bz (o.all aH.aY) (rF o idx (g (args.map (V.Ag (λZ=>idx.idxOf Z))) o'))
noncomputable def oz(g:List V->az->aR V)(args:List V)(o:az):aR V:=CR g args o (idxOf args)
theorem lD:∀{l acc:List Nat},acc.Nodup->(fS acc l).Nodup
 | [],_,h=>h
 |n::r,acc,h=>by
  by_cases q:acc.contains n=true
  ·rw[show fS acc (n::r)=fS acc r from congrArg (λa=>fS a r) (bw q)];exact lD h
  ·rw[show fS acc (n::r)=fS (acc++[n]) r from congrArg (λa=>fS a r) (aZ q)];exact lD (nk.mpr ⟨h,fU.mpr ⟨λh=>(nomatch h),nh⟩,λa ha b hb e=>q (by cases dQ.mp hb;exact List.contains_iff_mem.mpr (e▸ha))⟩)
theorem oO:∀{l acc:List Nat}{n:Nat},n ∈ acc\/n ∈ l->n ∈ fS acc l
 | [],_,_,h=>h.elim id λh=>nomatch h
 |m::r,acc,n,h=>by
  by_cases q:acc.contains m=true
  ·rw[show fS acc (m::r)=fS acc r from congrArg (λa=>fS a r) (bw q)];exact oO (h.elim .inl λh=>(cN.mp h).elim (λe=> .inl (e▸List.contains_iff_mem.mp q)) .inr)
  ·rw[show fS acc (m::r)=fS (acc++[m]) r from congrArg (λa=>fS a r) (aZ q)];exact oO (h.elim (λh=> .inl (g6 _ h)) λh=>(cN.mp h).elim (λe=> .inl (iF _ (dQ.mpr e))) .inr)
section
variable{α:Type}{l l':List α}{idx:List Nat}
theorem kB:∀{idx:List Nat}{l':List α},l8 l idx=some l'->l'.length=idx.length
 | [],_,e=>by cases e;rfl
 |i::r,_,e=>by
  obtain⟨x,_,e⟩:=bS e;obtain⟨xs,h,rfl⟩:=mS e;exact congrArg (λZ=>Z+1) (kB h)
theorem kC:∀{idx:List Nat}{l':List α}{p i:Nat},l8 l idx=some l'->idx[p]? =some i->l'[p]? =l[i]? /\i < l.length
 | [],_,_,_,_,h=>by cases h
 |i::r,_,p,j,e,h=>by
  obtain⟨x,hx,e⟩:=bS e;obtain⟨xs,h',rfl⟩:=mS e;cases p with
  |zero=>cases h;exact⟨hx.symm,(nc.mp hx).1⟩
  |succ p=>exact kC (p:=p) h' h
theorem Cn(hl:m.length=l.length):∀{idx:List Nat}{l':List α},l8 l idx=some l'->∃m',l8 m idx=some m'
 | [],_,_=>⟨[],rfl⟩
 |i::r,_,e=>by
  obtain⟨x,hx,e⟩:=bS e;obtain⟨xs,h',rfl⟩:=mS e;obtain⟨m',h⟩:=Cn hl h';have lt:i < m.length:=hl▸(nc.mp hx).1;exact⟨m[i]::m',by show(m[i]?.bind λx=>(l8 m r).map (λZ=>x::Z))=_;rw[je lt,h];rfl⟩
end
inductive Vg(o:az)(idx:List Nat)(xs:az)(j:Nat)(x:aH):Prop
 |old (n:j ∉ idx) (e:o[j]? =some x)
 |src (p:Nat) (ej:j=Er o.length idx p) (e:xs[p]? =some x)
theorem o6:∀{idx:List Nat}{o xs:az}{j:Nat}{x:aH},idx.length<=xs.length->(AW idx o xs)[j]? =some x->Vg o idx xs j x
 | [],o,xs,j,x,_,e=>by
  have e:(o++xs)[j]? =some x:=e
  by_cases q:j < o.length
  ·exact .old (λh=>nomatch h) ((yc q).symm.trans e)
  ·have q:=Nat.le_of_not_lt q;exact .src (j - o.length) (Nat.add_sub_of_le q).symm ((Az q).symm.trans e)
 |i::r,o,[],j,x,hl,e=>absurd hl (Nat.not_succ_le_zero _)
 |i::r,o,y::xs,j,x,hl,e=>by
  refine(o6 (idx:=r) (o:=o.set i y) (xs:=xs) (Dv hl) e).rec (λn e=> ?_) λp ej e=> .src (p+1) ?_ e
  ·rcases jn e with⟨q,q'⟩ |⟨q,e⟩
   ·clear hl e;clear e;subst q;subst q';exact .src 0 rfl rfl
   ·exact .old (λh=>(cN.mp h).elim q n) e
  ·rw[ej,List.length_set];unfold Er;rw[List.getElem?_cons_succ,jS,Nat.add_sub_add_right]
theorem yC:∀{idx:List Nat}{o xs:az},idx.length<=xs.length->(AW idx o xs).length=o.length+(xs.length - idx.length)
 | [],o,xs,_=>dJ
 |_::_,_,[],hl=>absurd hl (Nat.not_succ_le_zero _)
 |i::r,o,y::xs,hl=>by
  show(AW r (o.set i y) xs).length=_;rw[yC (Dv hl),List.length_set,jS,jS,Nat.succ_sub_succ]
set_option tactic.hygienic true in
theorem zN{idx:List Nat}(hn:n=ρ.length)(hp:l8 ρ idx=some ρ')(pr:ρ' <+:kg)(h:kg[p]? =some a):(ρ++kg.drop idx.length)[Er n idx p]? =some a:=by
 unfold Er;split
 ·rename_i i hi;obtain⟨e,lt⟩:=kC hp hi;obtain⟨t,rfl⟩:=pr;rw[yc lt, <-e]
  rwa [yc (by rw[kB hp];exact(nc.mp hi).1)]at h
 ·rename_i hi;have hi:=Dy.mp hi;rw[hn,Az (fN _ _),Nat.add_sub_cancel_left,List.getElem?_drop,Nat.add_sub_of_le hi];exact h
theorem Kd{idx:List Nat}(hp:l8 ρ idx=some ρ')(h:n ∈ idx)(e:ρ[n]? =some a):ρ'[idx.idxOf n]? =some a:=by
 have:=List.idxOf_lt_length_iff.mpr h;exact(kC hp ((je this).trans (congrArg some (List.getElem_idxOf this)))).1.trans e
section
variable{G:Gd}{ah:Heap}{Fa:aP G ah}{N:Nat}{F F':FZ}{ρ ρ' kg:List Addr}{o o' Rh:az}{X c7 Y:List (Addr×Obj)}{h h':Heap}{idx:List Nat}{args:List V}{us:List Value}
theorem WR.rename:∀{v:V}{u:Value},(∀n ∈ v.hs,∀a,ρ[n]? =some a->ρ'[f n]? =some a)->WR G F ρ v u->WR G F ρ' (v.Ag f) u
 | .d _,_,_,w=>w
 | .h n,_,k,w=>w.rec λa e q=>⟨a,k n (.head _) a e,q⟩
 | .bV t r,_,k,w=>w.rec λa dx es n tv rv e ha hb hn he ht q=>⟨a,dx,es,n,tv,rv,e,ha,hb,hn,he,ht.rec λa e q=>⟨a,k t (.head _) a e,q⟩,WR.rename (λn hn=>k n (.tail _ hn)) q⟩
 | .pair x y,_,k,w=>w.rec λa xv yv ep e ha hx hy=>⟨a,xv,yv,ep,e,ha,WR.rename (λn hn=>k n (g6 _ hn)) hx,WR.rename (λn hn=>k n (iF _ hn)) hy⟩
 | .lam _,_,_,w=>w
theorem j_.rename:∀{vs:List V}{us:List Value},(∀n ∈ vs.flatMap V.hs,∀a,ρ[n]? =some a->ρ'[f n]? =some a)->j_ G F ρ vs us->j_ G F ρ' (vs.map (V.Ag f)) us
 | [],_,_,w=>w
 |_::_,_,k,w=>w.rec λu us e a b=>⟨u,us,e,a.rename λn hn=>k n (g6 _ hn),j_.rename (λn hn=>k n (iF _ hn)) b⟩
theorem OR.held:∀{x:aH},x≠ .dead->x.aY=true->OR G F a x ob->nO (a,ob)=false
 | .list _,_,_,r=>OR.exact (.list _) rfl r
 | .dict _ _,_,_,r=>OR.exact (.dict _ _) rfl r
 | .bO _,_,_,r=>OR.exact (.bO _) rfl r
 | .rev _,_,_,r=>r.rec λZ Z Z Z Z Z d=>cY d
 | .tab _,_,_,r=>r.rec λZ Z e Z=>by rw[e];rfl
 | .pin x,_,f,r=>OR.exact x f r.2
 | .dead,n,_,_=>absurd rfl n
noncomputable def Hz(o:az)(ρ:List Addr)(h:Heap)(idx:List Nat)(j:Nat):Option (Addr×Obj):=if j ∈ idx then none else o[j]?.bind λx=>match x with
 | .dead=>none
 |_=>ρ[j]?.bind λa=>(h.get? a).map (λZ=>(a,Z))
inductive Vr(o:az)(ρ:List Addr)(h:Heap)(idx:List Nat)(j:Nat)(p:Addr×Obj):Prop
 |mk (x:aH) (n:j ∉ idx) (e:o[j]? =some x) (d:x≠ .dead) (r:ρ[j]? =some p.1) (g:h.get? p.1=some p.2)
set_option tactic.hygienic true in
theorem w9(e:Hz o ρ h idx j=some p):Vr o ρ h idx j p:=by
 unfold Hz at e;split at e
 ·cases e
 ·rename_i n;obtain⟨x,hx,e⟩:=bS e;split at e
  ·cases e
  ·rename_i d;obtain⟨a,ha,e⟩:=bS e;obtain⟨ob,hb,rfl⟩:=mS e;exact⟨x,n,hx,d,ha,hb⟩
theorem La(e:Vr o ρ h idx j p):Hz o ρ h idx j=some p:=e.rec λx n e d r g=>by
 unfold Hz;rw[aZ n,e];show(match x with | .dead=>none |_=>_)=_;clear e;split
 ·exact absurd rfl d
 ·rw[r];show(h.get? p.1).map _=_;rw[g];rfl
noncomputable def s8(o:az)(ρ:List Addr)(h:Heap)(idx:List Nat):List (Addr×Obj):=(List.range o.length).filterMap (Hz o ρ h idx)
theorem lA(e:p ∈ s8 o ρ h idx):∃j,Vr o ρ h idx j p:=let⟨j,_,e⟩:=List.mem_filterMap.mp e;⟨j,w9 e⟩
theorem qy(e:Vr o ρ h idx j p):p ∈ s8 o ρ h idx:=List.mem_filterMap.mpr ⟨j,List.mem_range.mpr (e.rec λx n e d r g=>(nc.mp e).1),La e⟩
theorem SR.narrow(S:SR G ah F ρ o X h)(nd:idx.Nodup)(h1:l8 o idx=some o')(h2:l8 ρ idx=some ρ'):SR G ah F ρ' o' (s8 o ρ h idx++X) h:=by
 have src:∀{p:Nat}{x:aH},o'[p]? =some x->∃i,idx[p]? =some i/\o[i]? =some x/\ρ'[p]? =ρ[i]? :=λ{p x} e=>by
  have lt:p < idx.length:=kB h1▸(nc.mp e).1;have hi:=je lt;exact⟨_,hi,(kC h1 hi).1.symm.trans e,(kC h2 hi).1⟩
 refine⟨S.base,S.stays,(kB h2).trans (kB h1).symm,λp x e n=> ?_,λp q x y a ep nx eq ny hp hq=> ?_,λz hz=> ?_,λz hz p x e n q=> ?_, ?_⟩
 ·obtain⟨i,_,e1,e2⟩:=src e;exact(S.obj i x e1 n).rec λa ob g1 g2 g3 r=>⟨a,ob,e2.trans g1,g2,g3,r⟩
 ·obtain⟨i,i1,i2,i3⟩:=src ep;obtain⟨j,j1,j2,j3⟩:=src eq;have:=S.inj i j x y a i2 nx j2 ny (i3.symm.trans hp) (j3.symm.trans hq);clear j3 j2;subst this;exact(List.getElem?_inj (nc.mp i1).1 nd).mp (i1.trans j1.symm)
 ·rcases gU.mp hz with hz |hz
  ·obtain⟨j,hj⟩:=lA hz;exact hj.rec λx n e d r g=>⟨.of g,(S.addr e d r).2⟩
  ·exact S.jw z hz
 ·obtain⟨i,i1,i2,i3⟩:=src e;rcases gU.mp hz with hz |hz
  ·obtain⟨j,hj⟩:=lA hz;exact hj.rec λy m e d r g=>m (S.inj i j x y z.1 i2 n e d (i3.symm.trans q) r▸vX i1)
  ·exact S.apart z hz i x i2 n (i3.symm.trans q)
 ·rw[fZ];refine nk.mpr ⟨?_,S.nodup,λa ha b hb e=> ?_⟩
  ·refine lR.mpr (List.pairwise_filterMap.mpr (List.nodup_range.imp λ{i j} ne p hp q hq e=>ne ?_));exact(w9 hp).rec λx n ex d r g=>(w9 hq).rec λy m ey d' r' g'=>S.inj i j x y p.1 ex d ey d' r (e▸r')
  ·obtain⟨p,hp,rfl⟩:=mM ha;obtain⟨q,hq,rfl⟩:=mM hb;obtain⟨j,hj⟩:=lA hp;exact hj.rec λx n ex d r g=>S.apart q hq j x ex d (e▸r)
theorem SR.widen(S:SR G ah F ρ o X h)(nd:idx.Nodup)(h1:l8 o idx=some o')(h2:l8 ρ idx=some ρ')(aY:o.all aH.aY=true)(f:Sub F F')(pr:ρ' <+:kg)(hX:∀p ∈ c7,p ∈ X)(S':SR G ah F' kg Rh (s8 o ρ h idx++c7) h'):
  SR G ah F' (ρ++kg.drop idx.length) (AW idx o Rh) c7 h':=by
 have il:idx.length<=Rh.length:=by rw[<-S'.len, <-kB h2];exact pr.length_le
 have lt:∀i ∈ idx,i < o.length:=λi hi=>by
  obtain⟨p,hp⟩:=List.mem_iff_getElem?.mp hi;exact(kC h1 hp).2
 have bg:∀{p:Nat}{x:aH},Rh[p]? =some x->∃a,kg[p]? =some a/\(ρ++kg.drop idx.length)[Er o.length idx p]? =some a:=λ{p x} e=>by
  have l:p < kg.length:=S'.len▸(nc.mp e).1;exact⟨_,je l,zN S.len.symm h2 pr (je l)⟩
 have old:∀{j:Nat}{x:aH},j ∉ idx->o[j]? =some x->x≠ .dead->∃p,Vr o ρ h idx j p/\OR G F p.1 x p.2/\(ρ++kg.drop idx.length)[j]? =some p.1/\nO p=false:=λ{j x} n e d=>
  (S.obj j x e d).rec λa ob g1 g2 g3 r=>⟨(a,ob),⟨x,n,e,d,g1,g2⟩,r,jv ⟨_,rfl⟩ g1,r.held d (cZ.mp aY x (vX e))⟩
 refine⟨S'.base,S'.stays,by rw[yC il,dJ,List.length_drop,S.len,S'.len],λj x e d=> ?_,λj k x y a ej dx ek dy hj hk=> ?_,λp hp=>S'.jw p (iF _ hp),λp hp j x e d q=> ?_,(nk.mp (fZ▸S'.nodup)).2.1⟩
 ·refine(o6 il e).rec (λn e=> ?_) λp ep e=> ?_
  ·obtain⟨p,hp,r,q,m⟩:=old n e d;have:=g6 c7 (qy hp);exact⟨p.1,p.2,q,(S'.ext p this m).1,S'.lC p this,r.mono f⟩
  ·obtain⟨a,g,g'⟩:=bg e;exact(S'.obj p x e d).rec λb ob g1 g2 g3 r=>⟨b,ob,by rw[ep,g', <-g,g1],g2,g3,r⟩
 ·refine(o6 il ej).rec (λn e=> ?_) λp ep e=> ?_<;>refine(o6 il ek).rec (λn2 e2=> ?_) λp2 Qg e2=> ?_
  ·obtain⟨p,hp,r,q,m⟩:=old n e dx;obtain⟨p',K_,r',q',m'⟩:=old n2 e2 dy;exact hp.rec λZ Z Z Z r1 Z=>K_.rec λZ Z Z Z r2 Z=>S.inj j k x y p.1 e dx e2 dy r1 (r2.trans (q'.symm.trans (hk.trans (hj.symm.trans q))))
  ·obtain⟨p,hp,r,q,m⟩:=old n e dx;obtain⟨b,g,g'⟩:=bg e2;rw[Qg,g']at hk;exact absurd (g.trans (hk.trans (hj.symm.trans q))) (S'.apart p (g6 _ (qy hp)) p2 y e2 dy)
  ·obtain⟨p',K_,r,q,m⟩:=old n2 e2 dy;obtain⟨b,g,g'⟩:=bg e;rw[ep,g']at hj;exact absurd (g.trans (hj.trans (hk.symm.trans q))) (S'.apart p' (g6 _ (qy K_)) p x e dx)
  ·obtain⟨b,g,g'⟩:=bg e;obtain⟨b2,q,q'⟩:=bg e2;rw[ep,g']at hj;rw[Qg,q']at hk;rw[ep,Qg,S'.inj p p2 x y a e dx e2 dy (g.trans hj) (q.trans hk)]
 ·refine(o6 il e).rec (λn e=> ?_) λp2 ep e=> ?_
  ·exact S.apart p (hX p hp) j x e d ((yc (S.J4 e)).symm.trans q)
  ·obtain⟨a,g,g'⟩:=bg e;rw[ep,g']at q;exact S'.apart p (iF _ hp) p2 x e d (g.trans q)
theorem SR.hidden(S:SR G ah F ρ o X h)(aY:o.all aH.aY=true)(e:p ∈ s8 o ρ h idx):nO p=false:=
 let⟨j,hj⟩:=lA e;hj.rec λx n e d r g=>by
  obtain⟨⟨ob,g',r⟩,_⟩:=S.addr e d r;cases g.symm.trans g';exact r.held d (cZ.mp aY x (vX e))
theorem j_.from(W:j_ G F ρ args us)(h2:l8 ρ idx=some ρ')(hm:∀n ∈ args.flatMap V.hs,n ∈ idx):j_ G F ρ' (args.map (V.Ag (λZ=>idx.idxOf Z))) us:=W.rename λn hn a e=>Kd h2 (hm n hn) e
theorem kQ.frame(hg:kQ Fa N v g):kQ Fa N v (oz g):=by
 intro A s objs F ρ X Q E args us R X' S W P;refine aS.bx P λo' h1 P=> ?_;obtain⟨aY,P⟩:=P.bz;obtain⟨ρ',h2⟩:=Cn S.len h1;have nd:(idxOf args).Nodup:=lD (by decide);refine hg A s o' F ρ' _ Q E _ us R (X'.rec λl e r=>⟨l,e,λenv he=>(r env he).rec λk L o f1 f2 f3=>⟨k,L,o,f1,iF _ f2,f3⟩⟩) (S.narrow nd h1 h2) (W.from h2 λn hn=>oO (.inr hn)) ?_;cases hr:g (args.map (V.Ag ((idxOf args).idxOf ·))) o' with
 |stuck=>rw[hr]at P;exact P.elim
 |ok v o₂=>
  rw[hr]at P;exact λu F' kg h' tk f p S2 w2=>P u F' _ h' tk f ⟨_,rfl⟩ (S.widen nd h1 h2 aY f p (λZ hp=>hp) S2) (w2.rename λn Z a e=>zN S.len.symm h2 p e)
 |exc x o₂=>
  rw[hr]at P;exact λe F' kg h' tk f p fl=>P e F' _ h' tk f ⟨_,rfl⟩ (fl.rec λbase l a he hl hn ff st S2 hm t=>⟨base,l,a,he,hl,hn,ff,st,S.widen nd h1 h2 aY f p (λZ hp=>(iE.mp hp).1) (by
   rw[List.filter_append,List.filter_eq_self.mpr λp hp=> ?_]at S2
   ·exact S2
   ·rw[S.hidden aY hp];rfl),λp hp=>hm p (iF _ hp),t⟩)
end
noncomputable def wO:List Nat->List Nat->Bool
 | [],b=>b.isEmpty
 |x::r,b=>match b with
  | []=>false
  |y::s=>Nat.beq x y&&wO r s
theorem vn:∀{a b:List Nat},wO a b=true->a=b
 | [],b,h=>(nZ.mp h).symm
 |x::r,[],h=>Bool.noConfusion h
 |x::r,y::s,h=>by
  obtain⟨h1,h2⟩:=bA h;rw[Nat.eq_of_beq_eq_true h1,vn h2]
noncomputable def kR(a b:Str):Bool:=wO a.cps.toList b.cps.toList
theorem iU(h:kR a b=true):a=b:=by
 have:=vn h;cases a;cases b;exact congrArg _ (Array.toList_inj.mp this)
theorem qL:∀(a:List Nat),wO a a=true
 | []=>rfl
 |x::r=>Bool.and_eq_true_iff.mpr ⟨Nat.beq_refl x,qL r⟩
theorem ku(a:Str):kR a a=true:=qL _
noncomputable def vf:List Str->Bool
 | []=>true
 |x::r=>r.all (λy=> !kR x y)&&vf r
theorem iJ:∀{l:List Str},vf l=true->l.Nodup
 | [],_=>nh
 |x::r,h=>by
  obtain⟨h1,h2⟩:=bA h;refine fU.mpr ⟨λm=> ?_,iJ h2⟩;have:=cZ.mp h1 x m;rw[ku]at this;cases this
noncomputable abbrev JE:=List (Option Str)
noncomputable def iS(l:JE)(i:Nat):Option Str:=l[i]?.bind id
noncomputable def qO(x:Str):JE->Nat->Option Nat
 | [],_=>none
 |y::r,n=>match y with
  |some y=>if kR y x=true then some n else qO x r (n+1)
  |none=>qO x r (n+1)
set_option tactic.hygienic true in
theorem zq:∀{l:JE}{n i:Nat},qO x l n=some i->∃j,i=n+j/\iS l j=some x
 | [],_,_,h=>by cases h
 |y::r,n,i,h=>by
  have next:qO x r (n+1)=some i->∃j,i=n+j/\iS (y::r) j=some x:=λh=>by
   obtain⟨j,e,h⟩:=zq h;exact⟨j+1,e.trans (by rw[oS,ng 1]),h⟩
  rcases y with _ |y
  ·exact next h
  ·by_cases q:kR y x=true
   ·have h:=(bw q:qO x (some y::r) n=some n).symm.trans h;clear next;cases h;exact⟨0,rfl,congrArg some (iU q)⟩
   ·exact next ((aZ q:qO x (some y::r) n=qO x r (n+1)).symm.trans h)
noncomputable def qa(l:JE):List Str:=l.filterMap id
theorem yh(h:iS l i=some x):some x ∈ l:=by
 obtain⟨y,h1,h2⟩:=bS h;cases h2;exact vX h1
theorem yi:∀{l:JE},(qa l).Nodup->∀{i j:Nat}{x:Str},iS l i=some x->iS l j=some x->i=j
 | [],_,i,_,_,h,_=>by cases h
 |y::r,nd,i,j,x,h1,h2=>by
  have mem:∀{k:Nat},iS r k=some x->x ∈ qa r:=λh=>List.mem_filterMap.mpr ⟨some x,yh h,rfl⟩;have nr:(qa r).Nodup:=by
   cases y with
   |none=>exact nd
   |some y=>exact(fU.mp nd).2
  have hd:iS (y::r) 0=some x->x ∉ qa r:=λh=>by
   have h:y=some x:=h;clear h2 h1;subst h;exact(fU.mp nd).1
  cases i with
  |zero=>cases j with
   |zero=>rfl
   |succ j=>exact absurd (mem h2) (hd h1)
  |succ i=>cases j with
   |zero=>exact absurd (mem h1) (hd h2)
   |succ j=>exact congrArg (λZ=>Z+1) (yi nr h1 h2)
noncomputable def A0(x:Str):Bool:= !kR x "__debug__"&& !kR x "__classdict__"
theorem mX(h:A0 x=true):(x==("__debug__":Str))=false/\(x==("__classdict__":Str))=false:=by
 have key:∀{y:Str},(!kR x y)=true->(x==y)=false:=λ{y} h=>by
  cases e:x==y with
  |false=>rfl
  |true=>rw[beq_iff_eq.mp e,ku]at h;cases h
 obtain⟨h1,h2⟩:=bA h;exact⟨key h1,key h2⟩
noncomputable def oX(l:JE):Bool:=vf (qa l)&&(qa l).all A0
theorem jH(h:oX l=true)(e:iS l i=some x):(x==("__debug__":Str))=false/\(x==("__classdict__":Str))=false:=
 mX (cZ.mp (bA h).2 x (List.mem_filterMap.mpr ⟨some x,yh e,rfl⟩))
theorem p_(h:oX l=true):iS l i=some x->iS l j=some x->i=j:=yi (iJ (bA h).1)
noncomputable def pB(l:List (Str×NameKind))(x:Str):Option NameKind:=match l with
 | []=>none
 |(y,k)::r=>if kR x y=true then some k else pB r x
theorem lg:∀(l:List (Str×NameKind))(x:Str),pB l x=l.lookup x
 | [],_=>rfl
 |(y,k)::r,x=>by
  by_cases q:x=y
  ·subst q;exact(bw (ku x):pB ((x,k)::r) x=some k).trans (by rw[lV,lQ])
  ·exact((aZ λh=>q (iU h):pB ((y,k)::r) x=pB r x).trans (lg r x)).trans (by rw[lV,beq_false_of_ne q])
noncomputable def NameKind.M8:NameKind->NameKind->Bool
 | .local, .local=>true
 | .cell, .cell=>true
 | .free, .free=>true
 | .globalImplicit, .globalImplicit=>true
 |_,_=>false
theorem NameKind.Bj(h:NameKind.M8 a b=true):a=b:=by cases a<;>cases b<;>first |rfl |cases h
noncomputable def xW(l:List (Str×NameKind))(x:Str)(k:NameKind):Bool:=match pB l x with
 |some k'=>NameKind.M8 k' k
 |none=>false
theorem qv(h:xW l x k=true):l.lookup x=some k:=by
 unfold xW at h;rw[lg]at h;split at h
 ·rename_i e;rw[e,NameKind.Bj h]
 ·cases h
set_option genCtorIdx false in
inductive kT |no |lst |emp (x:aH) |pair |key (x:aH)
structure SC where
 names:List (Str×NameKind)
 vis:JE
 top:Bool
 tab:Option Nat
 lam:Bool
 MF:List (Str×kT)
 ret:kT
 Ju:kT
 wh:Nat
inductive TabAt(G:Gd)(ah:Heap)(cx:Cx)(j:Nat):Prop
 |mk (code:∃c,cx.en.code= .ref c/\CodeHd ah c (G.nt j)) (qual:cx.en.qual++"<lambda>"=G.qd j) (bt:∀bm ob,ob.cls= .type "module"->ah.get? bm=some ob->bm≠G.nt j)
structure cW(G:Gd)(ah:Heap)(sc:SC)(cx:Cx):Prop where
 ok:CxOk cx
 WS:sc.lam=false->oQ cx
 kind:∀x,cx.en.kindOf x=sc.names.lookup x
 vis:∀i,cx.vis i=iS sc.vis i
 cel:sc.top=true->∀x c,cx.en.cells.lookup x=some c->c ∈ cx.own
 tab:∀j,sc.tab=some j->TabAt G ah cx j
noncomputable def SC.var(sc:SC)(x:Str):Option Nat:=qO x sc.vis 0
noncomputable def SC.VH(sc:SC)(x:Str):Bool:=xW sc.names x .local||(sc.top&&xW sc.names x .cell)
noncomputable def SC.glob(sc:SC)(x:Str):Bool:=xW sc.names x .globalImplicit&&A0 x
noncomputable def SC.put(sc:SC)(x:Str):Option Nat:=if sc.VH x=true then sc.var x else none
section
variable{G:Gd}{ah:Heap}{Fa:aP G ah}{N:Nat}{sc:SC}{cx:Cx}{x:Str}{i:Nat}
theorem cW.var(M:cW G ah sc cx)(h:sc.var x=some i):cx.vis i=some x:=by
 obtain⟨j,e,h⟩:=zq h;rw[jQ]at e;subst e;exact(M.vis _).trans h
theorem cW.xW(M:cW G ah sc cx)(h:xW sc.names x k=true):cx.en.kindOf x=some k:=(M.kind x).trans (qv h)
theorem cW.VH(M:cW G ah sc cx)(h:sc.VH x=true):IM cx x:=(Bool.or_eq_true_iff.mp h).elim (λh=> .inl (M.xW h)) λh=> .inr ⟨M.xW (bA h).2,M.cel (bA h).1 x⟩
theorem cW.put(M:cW G ah sc cx)(h:sc.put x=some i):cx.vis i=some x/\IM cx x:=by
 unfold SC.put at h;split at h
 ·rename_i q;exact⟨M.var h,M.VH q⟩
 ·cases h
theorem cW.glob(M:cW G ah sc cx)(h:sc.glob x=true):cx.en.kindOf x=some .globalImplicit/\(x==("__debug__":Str))=false:=⟨M.xW (bA h).1,(mX (bA h).2).1⟩
end
noncomputable def Cv(l:List Nat)(e:PySem.Expr):Bool:=l.all λn=> !Nat.beq n e.ctorIdx
noncomputable def rj(e:PySem.Expr):Bool:=Cv [8,9,10] e
theorem l6(h:rj e=true):swapsWith e t l env=pure false:=by
 cases e<;>first |rfl |cases h
theorem DH:swapsWith e (some (.Subscript c k p)) l env=pure false:=by cases e<;>rfl
theorem uX:swapsWithSole [.Tuple ts k p] e l env=pure false:=by
 show swapsWith e (some (.Tuple ts k p)) l env=pure false;cases e<;>rfl
theorem yo:swapsWith (.ListComp elt gs scope pos) (some (.Name t tp)) l env=pure (env.blockKind== .function&&env.kindOf t==some .local&&tp.line==pos.line
   && !(scope.names.any λ(n,k)=>n==t&&(k== .local||k== .cell))):=rfl
noncomputable def sE(e:PySem.Expr):Bool:=match e with
 | .Call fn as _ _=>Cv [23] fn|| !as.isEmpty
 |_=>true
set_option tactic.hygienic true in
theorem vO(h:sE e=true):attributeBase e x env w=w:=by
 cases e<;>first |rfl |skip
 rename_i fn as _ _;cases fn<;>first |rfl |skip
 cases as<;>first |rfl |cases h
noncomputable def Gv(e:PySem.Expr):Bool:=Cv [7] e
theorem m7(h:Gv e=true)(x:Value):foldedSetIterable e env x=pure x:=by cases e<;>first |rfl |cases h
noncomputable def vc(e:PySem.Expr):Bool:=Cv [3,0,5,15] e
theorem AH(h:vc e=true)(whole:Sem Value):isTrue e env whole=(do let v <-whole;standAt e.pos;holding [v] (truthy v)):=by
 cases e<;>first |rfl |cases h
set_option tactic.hygienic true in
theorem B_(o i:Value):∃ops,subscripted y false o i=operate ops (getItem o i):=by
 cases y<;>first |exact⟨_,rfl⟩ |skip
 rename_i st _;cases st<;>exact⟨_,rfl⟩
theorem jk:mP (.Name x p) es pos env:=rfl
theorem LI:eval (.Call (.Name x p) es ks pos) env=(do callWith pos (<-eval (.Name x p) env) [] (backTo pos (starEach es env)) (backToKw pos (keywordEach ks env))):=rfl
theorem yr:∀{es:List PySem.Expr},es.all noStar=true->(backTo pos (starEach es env)).all (λZ=> !Z.1)=true
 | [],_=>rfl
 |e::es,h=>by
  obtain⟨h1,h2⟩:=bA ((List.all_cons (l:=es)).symm.trans h);rw[gn h1];exact yr (es:=es) h2
noncomputable def qp(ob:PySem.Expr)(es:List PySem.Expr)(apos pos:Pos):Bool:=sE ob&&es.all noStar&&Nat.blt es.length 30&&Nat.beq apos.endLine pos.line
theorem wR(h:qp ob es apos pos=true):∃pl:Sem Bool,eval (.Call (.Attribute ob name apos) es [] pos) env=(do
   let ov <-eval ob env
   standAt apos.atName
   let(f,first) <-holding [ov] (getMethod ov name pl)
   callWith pos f first (backTo pos (starEach es env)) []):=by
 refine cps λPP kk=> ?_;obtain⟨h,h4⟩:=bA h;obtain⟨h,h3⟩:=bA h;obtain⟨h1,h2⟩:=bA h;refine kk ?_;clear kk;refine⟨do return (<-importBound ob env).getD true, ?_⟩;have hf:methodCallForm es.length (backTo pos (starEach es env)) []=true:=by
  unfold methodCallForm;rw[yr h2];exact cM (iD (p:=es.length+0 < 30) (by rw[Nat.add_zero];exact cM (g7 h3)))
 have:∀ov,methodCall ob name apos pos env ov es.length (backTo pos (starEach es env)) []=(do let(f,first) <-holding [ov] (getMethod ov name (do return (<-importBound ob env).getD true));callWith pos f first (backTo pos (starEach es env)) []):=λov=>by
  unfold methodCall methodCallPos calleeOf;rw[hf,bw rfl,bw (by rw[Nat.eq_of_beq_eq_true h4];simp)]
  rfl
 show(do let ov <-attributeBase ob name env (eval ob env);standAt apos.atName;methodCall ob name apos pos env ov es.length (backTo pos (starEach es env)) [])=_;rw[vO h1];simp only[this]
set_option genCtorIdx false in
inductive EV
 |other |name (x:Str) (p:Pos) |tup (es:List PySem.Expr) (k:Nat) (p:Pos) |sub (c k:PySem.Expr) (p:Pos) |attr (o:PySem.Expr) (x:Str) (p:Pos)
 |call (f:PySem.Expr) (es:List PySem.Expr) (ks:List Keyword) (p:Pos) |lam (a:Arguments) (b:PySem.Expr) (s:Scope) (p:Pos) |lc (elt:PySem.Expr) (gs:List Comprehension) (s:Scope) (p:Pos) |cut (lo hi st:Option PySem.Expr) (p:Pos)
noncomputable def ev:PySem.Expr->EV
 | .Name x p=> .name x p
 | .Tuple es k p=> .tup es k p
 | .Subscript c k p=> .sub c k p
 | .Attribute o x p=> .attr o x p
 | .Call f es ks p=> .call f es ks p
 | .Lambda a b s p=> .lam a b s p
 | .ListComp elt gs s p=> .lc elt gs s p
 | .Slice lo hi st p=> .cut lo hi st p
 |_=> .other
noncomputable def EV.un:EV->Option PySem.Expr
 | .other=>none
 | .name x p=>some (.Name x p)
 | .tup es k p=>some (.Tuple es k p)
 | .sub c k p=>some (.Subscript c k p)
 | .attr o x p=>some (.Attribute o x p)
 | .call f es ks p=>some (.Call f es ks p)
 | .lam a b s p=>some (.Lambda a b s p)
 | .lc elt gs s p=>some (.ListComp elt gs s p)
 | .cut lo hi st p=>some (.Slice lo hi st p)
theorem Uu(e x:PySem.Expr)(h:(ev e).un=some x):e=x:=by
 cases e<;>first |exact iQ h |exact aK h
theorem fJ(h:ev e=v)(u:v.un=some x):e=x:=Uu e x (h▸u)
noncomputable abbrev aD:=Nat->List V->az->aR V
noncomputable def jZ(cl:Cl)(k:Nat)(fW:List D):List V->az->aR V:=λa o=>if Nat.beq a.length k=true then CQ cl k [] a o else CQ cl k fW a o
set_option genCtorIdx false in
inductive GK |fn (id:Nat) |nH (d:D) |cls (c:Cl) (k:Nat) (fW:List D) |bV |exc (x:Ex) |tried |dec
inductive BK |len |abs |tuple |list |bytes |sum |reversed |sorted |dict |PF |range |zip |bool |int
noncomputable def Es:BK->Value
 | .len=> .builtin "len"
 | .abs=> .builtin "abs"
 | .tuple=> .type "tuple"
 | .list=> .type "list"
 | .bytes=> .type "bytes"
 | .sum=> .builtin "sum"
 | .reversed=> .type "reversed"
 | .sorted=> .builtin "sorted"
 | .dict=> .type "dict"
 | .PF=> .builtin "isinstance"
 | .range=> .type "range"
 | .zip=> .type "zip"
 | .bool=> .type "bool"
 | .int=> .type "int"
noncomputable def gG{α:Type}:List (Str×α)->Str->Option α
 | [],_=>none
 |p::r,x=>if kR p.1 x=true then some p.2 else gG r x
theorem gF:∀{l:List (Str×α)},gG l x=some a->(x,a) ∈ l
 | [],h=>by cases h
 |p::r,h=>by
  by_cases q:kR p.1 x=true
  ·have h:=(bw q:gG (p::r) x=some p.2).symm.trans h;cases h;rw[<-iU q];exact .head _
  ·exact .tail _ (gF ((aZ q:gG (p::r) x=gG r x).symm.trans h))
structure xY where
 glob:List (Str×GK)
 blt:List (Str×BK)
 mY:List (Str×Nat)
 pair:Nat
 plain:Nat
structure gY where
 e:SC->kT->PySem.Expr->Option (aD->DE)
 t:SC->PySem.Expr->Option (aD->DT)
 ss:SC->List Stmt->Option (aD->DS)
noncomputable def UP:Operator->Option (V->V->az->aR V)
 | .Add=>some cF
 | .Sub=>some j6
 | .Mult=>some iY
 | .FloorDiv=>some j7
 | .Mod=>some jj
 | .Pow=>some zF
 | .BitAnd=>some tL
 | .BitOr=>some Ei
 | .BitXor=>some zJ
 | .LShift=>some Lw
 | .RShift=>some Lv
 |_=>none
noncomputable def UC:CmpOp->Option (V->V->az->aR V)
 | .Eq=>some gi
 | .NotEq=>some gA
 | .Lt=>some uJ
 | .Gt=>some C3
 | .GtE=>some V8
 | .Is=>some Lx
 | .IsNot=>some iZ
 | .In=>some uK
 | .NotIn=>some dX
 |_=>none
noncomputable def bF:BK->Option (List V->az->aR V)
 | .len=>some (bB dj)
 | .abs=>some (bB zx)
 | .tuple=>some (bB oF)
 | .list=>some (bB zv)
 | .bytes=>some (bB j0)
 | .sum=>some (bB Ln)
 | .reversed=>some (bB m8)
 | .sorted=>some (bB c_)
 |_=>none
noncomputable def H9:Const->Option D
 | .int i=>some (.int i)
 | .str s=>some (.str s)
 | .none=>some .none
 | .bool b=>some (.bool b)
 | .bytes b=>if Nat.ble b.toArray.size 1000=true then some (.bytes b)else none
 |_=>none
noncomputable def oH:kT->Bool×aH
 | .emp x=>(true,x)
 | .key x=>(false,x)
 |_=>(false, .dict .ks [])
noncomputable def kT.CJ:kT->Bool
 | .lst=>true
 |_=>false
section
variable(tb:xY)(T:gY)
noncomputable def Gz(sc:SC)(x:Str):Option (aD->DE):=match sc.var x with
 |some i=>some λ_=>af i
 |none=>if sc.glob x=true then(match gG tb.glob x with |some (.nH d)=>some λ_=>ai d |_=>none)else none
noncomputable def zC(sc:SC):List PySem.Expr->List kT->Option (aD->ug)
 | [],_=>some λ_=>ak
 |e::r,os=>if noStar e=true then(T.e sc (os.headD .no) e).bind λf=>(zC sc r os.tail).map λg c=>aa (f c) (g c)else none
noncomputable def AY(sc:SC):List (Option PySem.Expr)->List PySem.Expr->Option (aD->N3)
 | [],vs=>match vs with
  | []=>some λ_=>fV
  |_=>none
 |k::ks,vs=>match k,vs with
  |some k,v::vs=>(T.e sc .no k).bind λf=>(T.e sc .no v).bind λg=>(AY sc ks vs).map λh c=>bW (f c) (g c) (h c)
  |_,_=>none
noncomputable def ND(sc:SC)(o:kT)(ks:List (Option PySem.Expr))(vs:List PySem.Expr):Option (aD->DE):=match ks with
 | []=>match vs with
  | []=>some λ_=>dh (oH o).1 (oH o).2
  |_=>none
 |k::r=>if Nat.blt r.length 15=true then(AY T sc (k::r) vs).map λf c=>cV (oH o).1 .ks (f c)else none
noncomputable def F4(sc:SC):Option PySem.Expr->Option (aD->DP)
 |none=>some λ_=>yF
 |some e=>(T.e sc .no e).map λf c=>qi (f c)
noncomputable def RW(sc:SC)(x y:PySem.Expr):EV->Option (aD->DE)
 | .cut lo hi st _=>match st with
  |none=>(T.e sc .no x).bind λf=>(F4 T sc lo).bind λa=>(F4 T sc hi).map λb c=>uL (f c) (a c) (b c)
  |some _=>none
 |_=>(T.e sc .no x).bind λf=>(T.e sc .no y).map λg c=>aB aC (f c) (g c)
end
section
variable{G:Gd}{ah:Heap}(Fa:aP G ah)(dec:Addr)(M:Nat)(c:aD)
inductive FnAt(x:Str)(g:List V->az->aR V):Prop
 |mk (v:Value) (hg:Fa.mg x=some v) (hk:Dl Fa v) (hf:kQ Fa M v g)
inductive Jq(x:Str)(y:Ex):Prop
 |mk (dP fI:Addr) (O:Jr Fa.K Fa.mg (Fa.j4 y) dP fI) (hm:vQ Fa M (Fa.j4 y)) (hk:keepIn Fa.K (.ref (Fa.j4 y))=true) (hg:Fa.mg x=some (.ref (Fa.j4 y)))
inductive xM(x:Str):Prop
 |mk (fa:Addr) (fx:FuncData) (iI:Str) (c9:Scope) (mF:Value) (k1 k2 k3:Nat) (p1 p2 p3 p4 p5 p6 p7 p8 p9 yI Ai Ah yH yG Jw Kp Ko F7 F6:Pos)
  (XO:We Fa) (hg:Fa.mg x=some (.ref fa)) (hk:keepIn Fa.K (.ref fa)=true) (Z:lE G ah fa fx iI c9 (B9 k1 k2 k3 p1 p2 p3 p4 p5 p6 p7 p8 p9 yI Ai Ah yH yG Jw Kp Ko F7 F6) mF ["work"] [] []) (ZT:BO c9) (ie:∀y ∈ c9.names,y.2≠ .cell)
inductive mL(x:Str)(d:D):Prop
 |mk (v:Value) (hg:Fa.mg x=some v) (hr:∀F,(∀a o,ah.get? a=some o->F.1 a=some o)->VR G F d v)
noncomputable def Jj(x:Str):GK->Prop
 | .fn id=>FnAt Fa M x (c id)
 | .nH d=>mL Fa x d
 | .cls cl k fW=>FnAt Fa M x (jZ cl k fW)/\Fa.mg x=some (.ref (G.pO cl))
 | .bV=>FnAt Fa M x (i7 mz)
 | .exc y=>Jq Fa M x y
 | .tried=>xM Fa x
 | .dec=>Fa.mg x=some (.ref dec)
inductive NX(C:Addr)(bad:List Str)(x:Str)(g:List V->az->aR V):Prop
 |mk (f:Addr) (O:t8 Fa.K C x f) (hn:x ∉ bad) (hk:Dl Fa (.ref f)) (hf:kQ Fa M (.ref f) g)
structure rI(tb:xY):Prop where
 cls:jy Fa dec
 glob:∀p ∈ tb.glob,Jj Fa dec M c p.1 p.2
 blt:∀p ∈ tb.blt,Fa.mg p.1=none/\p.1≠"__name__"/\bootBuiltins p.1=some (Es p.2)
 mY:∀p ∈ tb.mY,NX Fa M G.g_ [("table":Str),"trailer"] p.1 (c p.2)
 pair:NX Fa M (G.pO .reference) (bJ .reference) "pair" (c tb.pair)
 plain:∀k,Dl Fa (.ref (G.dH k))/\kQ Fa M (.ref (G.dH k)) (c tb.plain)
noncomputable def SC.lv(sc:SC)(M:Nat):Nat:=if sc.lam=true then M else M+3
noncomputable def z6(sc:SC)(e:PySem.Expr)(f:aD->DE):Prop:=∀{N:Nat}{cx:Cx},sc.lv M<=N->cW G ah sc cx->SE Fa N cx e (f c)
noncomputable def YG(sc:SC)(e:PySem.Expr)(f:aD->DT):Prop:=∀{N:Nat}{cx:Cx},sc.lv M<=N->cW G ah sc cx->ST Fa N cx e (f c)
noncomputable def YH(sc:SC)(es:List PySem.Expr)(f:aD->ug):Prop:=∀{N:Nat}{cx:Cx},sc.lv M<=N->cW G ah sc cx->zW Fa N cx es (f c)
noncomputable def OkS(sc:SC)(ss:List Stmt)(f:aD->DS):Prop:=∀{N:Nat}{cx:Cx},sc.lv M<=N->cW G ah sc cx->SS Fa N cx ss (f c)
structure m9(T:gY):Prop where
 e:∀{sc:SC}{o:kT}{e:PySem.Expr}{f:aD->DE},T.e sc o e=some f->z6 Fa M c sc e f
 t:∀{sc:SC}{e:PySem.Expr}{f:aD->DT},T.t sc e=some f->YG Fa M c sc e f
 ss:∀{sc:SC}{ss:List Stmt}{f:aD->DS},T.ss sc ss=some f->OkS Fa M c sc ss f
end
section
variable{G:Gd}{ah:Heap}{Fa:aP G ah}{dec:Addr}{M N:Nat}{c:aD}{tb:xY}{T:gY}{sc:SC}{cx:Cx}{o:kT}{x:Str}
theorem CA(h:sc.lv M<=N):M<=N:=by
 unfold SC.lv at h;split at h
 ·exact h
 ·exact cS (fN _ _) h
theorem Pa:pT Fa N (binaryOp .Mult) iY:=λZ Z Z Z Z Z Z Z Z Z Z Z Z Z S wa wb P=>P.alt (λZ hx P=>P.bx λZ hy P=>by
  obtain⟨_,rfl⟩:=wa.int hx;obtain⟨_,rfl⟩:=wb.int hy;exact mul_int (P.bz.2.done S ⟨_,rfl⟩) (GB P.bz.1)) λP=>P.bx λl hl P=>P.bx λn hn P=>by
  obtain⟨_,rfl⟩:=wb.int hn;obtain⟨hc,P⟩:=P.bz;obtain⟨h1,h2⟩:=bA hc;rw[DB rq hl]at wa;exact wa.rec λa vs ep e ha r=>by
   clear wa;subst e;exact GA (S.stays _ _ ha) (iD h1).1 (iD h1).2 (by rw[r.length];exact fk h2) (P.A7 S (cG.flat r _))
theorem LN(h:UP op=some t):pT Fa N (binaryOp op) t:=by
 cases op<;>first |exact aK h |(cases h;first |exact Pe |exact Pa |exact O3 |exact Pc |exact Pb |exact O_ |exact Ks |exact Pd |exact Kr |exact O9 |exact O7)
theorem Ly(h:UC op=some t):pT Fa N (compareOp op) t:=by
 cases op<;>first |exact aK h |(cases h;first |exact Sg |exact R9 |exact R_ |exact Se |exact Sf |exact Sa |exact Gf |exact Sd |exact Ge)
theorem NJ(h:bF b=some g):Dl Fa (Es b)/\kQ Fa N (Es b) g:=by
 cases b<;>first |exact aK h |(cases h;first |exact⟨nQ,Vx.fn⟩ |exact⟨nQ,Vz.fn⟩ |exact⟨t9,Ml.fn⟩ |exact⟨t9,Q0.fn⟩ |exact⟨t9,Mm.fn⟩ |exact⟨nQ,Vv.fn⟩ |exact⟨t9,BX.fn⟩ |exact⟨nQ,Jm.fn⟩)
set_option tactic.hygienic true in
theorem Ej(h:H9 k=some d):SE Fa N cx (.Constant k j pos) (ai d):=by
 cases k<;>first |exact aK h |skip
 ·cases h;exact Qy
 ·cases h;exact QC
 ·cases h;exact NT
 ·cases h;exact NS
 ·rename_i b
  by_cases q:Nat.ble b.toArray.size 1000=true
  ·cases(bw q).symm.trans h;exact LZ (cS (g7 q) (by decide))
  ·cases(aZ q).symm.trans h
theorem bP{x:Option α}(h:(if p=true then x else none)=some a):p=true/\x=some a:=by
 cases p with
 |true=>exact⟨rfl,h⟩
 |false=>cases h
theorem bind_some{x:Option α}{C:Prop}(h:x.bind f=some b)(k:∀a,x=some a->f a=some b->C):C:=by
 cases x with
 |none=>cases h
 |some a=>exact k a rfl h
theorem aM{x:Option α}{C:Prop}(h:x.map f=some b)(k:∀a,x=some a->f a=b->C):C:=by
 cases x with
 |none=>cases h
 |some a=>exact k a rfl (iQ h)
theorem Gy(L:rI Fa dec M c tb)(h:Gz tb sc x=some f):z6 Fa M c sc (.Name x p) f:=λ{N cx} hN Z=>by
 unfold Gz at h;cases hv:sc.var x with
 |some i=>rw[hv]at h;cases h;exact zV Z.ok (Z.var hv)
 |none=>
  rw[hv]at h;obtain⟨hg,h⟩:=bP h;cases hk:gG tb.glob x with
  |none=>rw[hk]at h;cases h
  |some g=>
   rw[hk]at h;cases g<;>first |(cases h;done) |skip
   cases h;exact(L.glob _ (gF hk)).rec λv hm hr=>IU Z.ok (Z.glob hg).1 (Z.glob hg).2 hm hr
theorem dW(Z:m9 Fa M c T):∀{es:List PySem.Expr}{os:List kT}{f:aD->ug},zC T sc es os=some f->YH Fa M c sc es f/\es.all noStar=true
 | [],_,_,h=>by cases h;exact⟨λU U=>Js,rfl⟩
 |e::r,os,f,h=>by
  obtain⟨hn,h⟩:=bP h;refine bind_some h λf h1 h=>aM h λg h2 h=> ?_;subst h;obtain⟨hg,hr⟩:=dW Z h2;exact⟨λhN Y=>Ds (Z.e h1 hN Y) (hg hN Y) (gn hn),List.all_cons.trans (by rw[hn,hr];rfl)⟩
noncomputable def VQ(env:Env)(pos:Pos):List (Option PySem.Expr)->List PySem.Expr->List (Sem Value×Sem Value)
 |some k::ks,v::vs=>(eval k env,do let x <-eval v env;standAt pos;pure x)::VQ env pos ks vs
 |_,_=>[]
theorem ve(Z:m9 Fa M c T){pos:Pos}:∀{ks:List (Option PySem.Expr)}{vs:List PySem.Expr}{f:aD->N3},AY T sc ks vs=some f->sc.lv M<=N->cW G ah sc cx->
  Vc Fa N cx (VQ cx.en pos ks vs) (f c)/\(evalEachOpt ks cx.en).zip ((evalEach vs cx.en).map λv=>do let x <-v;standAt pos;pure x)=(VQ cx.en pos ks vs).map (λp=>(some p.1,p.2))/\(VQ cx.en pos ks vs).length=ks.length
 | [],[],_,h,_,_=>by cases h;exact⟨QK,rfl,rfl⟩
 | [],_::_,_,h,_,_=>by cases h
 |none::_,_,_,h,_,_=>by cases h
 |some _::_,[],_,h,_,_=>by cases h
 |some k::ks,v::vs,f,h,hN,Y=>by
  refine bind_some h λf h1 h=>bind_some h λg h2 h=>aM h λr h3 h=> ?_;subst h;obtain⟨i1,i2,i3⟩:=ve Z h3 hN Y;exact⟨Mg (Z.e h1 hN Y) (Z.e h2 hN Y) i1,congrArg (λZ=>_::Z) i2,congrArg (λZ=>Z+1) i3⟩
theorem H7(Z:m9 Fa M c T){ks:List (Option PySem.Expr)}{vs:List PySem.Expr}{f:aD->DE}(h:ND T sc o ks vs=some f):z6 Fa M c sc (.Dict ks vs pos) f:=λ{N cx} hN Y=>by
 cases ks with
 |nil=>cases vs with
  |nil=>cases h;exact LX
  |cons=>cases h
 |cons k r=>
  obtain⟨hl,h⟩:=bP h;refine aM h λf h1 h=> ?_;subst h;obtain⟨i1,i2,i3⟩:=ve Z (pos:=pos) h1 hN Y;exact QB i1 i2 (λq=>by rw[q]at i3;cases i3) (by rw[i3];exact g7 hl)
theorem yE(Z:m9 Fa M c T){e:Option PySem.Expr}(h:F4 T sc e=some f)(hN:sc.lv M<=N)(Y:cW G ah sc cx):SP Fa N cx e (f c):=by
 cases e with
 |none=>cases h;exact QO
 |some e=>exact aM h λg h1 h=>by subst h;exact QN (Z.e h1 hN Y)
theorem F0(Z:m9 Fa M c T){x y:PySem.Expr}(h:((T.e sc .no x).bind λf=>(T.e sc .no y).map λg c=>aB aC (f c) (g c))=some f):z6 Fa M c sc (.Subscript x y pos) f:=
 bind_some h λf h1 h=>aM h λg h2 h=>h▸λhN Y=>IT (Z.e h1 hN Y) (Z.e h2 hN Y) B_
theorem J0(Z:m9 Fa M c T){x y:PySem.Expr}{v:EV}{f:aD->DE}(hv:ev y=v)(h:RW T sc x y v=some f):z6 Fa M c sc (.Subscript x y pos) f:=by
 cases v with
 |cut lo hi st p=>
  rcases fJ hv rfl with⟨⟩
  clear hv;cases st with
  |some=>cases h
  |none=>exact bind_some h λf h1 h=>bind_some h λa h2 h=>aM h λb h3 h=>h▸λhN Y=>U9 (Z.e h1 hN Y) (yE Z h2 hN Y) (yE Z h3 hN Y)
 |_=>exact F0 Z h
end
noncomputable def Qf:EV->Option Str
 | .name x _=>some x
 |_=>none
theorem Lp{v:EV}{x:Str}(h:Qf v=some x):∃p,v= .name x p:=by cases v<;>first |exact aK h |(cases h;exact⟨_,rfl⟩)
noncomputable def sf(sc:SC):List PySem.Expr->Option (List Nat)
 | []=>some []
 |e::r=>(Qf (ev e)).bind λx=>(sc.put x).bind λi=>(sf sc r).map λis=>i::is
noncomputable def Ox(sc:SC):EV->Option (V->bL->az->aR bL)
 | .name x _=>(sc.put x).map aU
 | .tup es _ _=>(sf sc es).map jE
 |_=>none
noncomputable def jh(sc:SC)(names:List (Str×NameKind)):JE:=sc.vis.map λo=>o.bind λx=>if xW names x .free=true then some x else none
noncomputable def qj(names:List (Str×NameKind)):List Str:=names.filterMap λy=>if NameKind.M8 y.2 .local=true then some y.1 else none
noncomputable def jP(sc:SC)(names:List (Str×NameKind)):JE:=jh sc names++(qj names).map some
noncomputable def vF:ScopeKind->Bool
 | .function=>true
 |_=>false
noncomputable def rE(sc:SC)(scope:Scope):Bool:= !sc.lam&&vF scope.kind&&oX (jP sc scope.names)&&scope.names.all λy=>match y.2 with
 | .cell=>false
 | .local=>xW scope.names y.1 .local
 | .free=>xW sc.names y.1 .cell
 |_=>true
noncomputable def zo(k:NameKind):NameKind:=if NameKind.M8 k .free=true then .cell else k
noncomputable def iw(sc:SC)(scope:Scope):SC:={names:=scope.names.map λy=>(y.1,zo y.2),vis:=jP sc scope.names,top:=false,tab:=none,lam:=false,MF:=[],ret:= .no,Ju:= .no,wh:=0}
noncomputable def pN(sc:SC)(scope:Scope):List Nat:=(List.range (qj scope.names).length).map (λZ=>sc.vis.length+Z)
noncomputable def DX(o:kT):List D->az->aR V:=if o.CJ=true then zm else bh
section
variable(tb:xY)(T:gY)
noncomputable def sW(sc:SC)(e:PySem.Expr):Option (aD->DI):=if Gv e=true then(T.e sc .no e).map λf c=>bH (f c)else none
noncomputable def EV.isTup:EV->Bool
 | .tup .. =>true
 |_=>false
noncomputable def SC.blt(sc:SC)(x:Str):Option BK:=if sc.glob x=true then gG tb.blt x else none
noncomputable def Zs(sc:SC)(tg:EV)(e:PySem.Expr)(es:List PySem.Expr):Option BK->Option (aD->DI)
 |some .range=>(zC T sc es []).map λfs c=>eE (fs c)
 |some .zip=>if tg.isTup=true then(zC T sc es []).map λfs c=>Qn (fs c)else none
 |_=>sW T sc e
noncomputable def Zr(sc:SC)(o:kT)(tg:EV)(e:PySem.Expr)(es:List PySem.Expr)(p:Pos):EV->Option (aD->DI)
 | .name x _=>Zs T sc tg e es (sc.blt tb x)
 | .attr ob x apos=>if(kR x "items"&&tg.isTup&&es.isEmpty&&qp ob [] apos p)=true then(T.e sc o ob).map λf c=>qB (f c)else sW T sc e
 |_=>sW T sc e
noncomputable def TM(sc:SC)(o:kT)(tg:EV)(e:PySem.Expr):EV->Option (aD->DI)
 | .call f es ks p=>if ks.isEmpty=true then Zr tb T sc o tg e es p (ev f)else sW T sc e
 |_=>sW T sc e
noncomputable def v_(sc:SC):List PySem.Expr->Option (aD->DT)
 | []=>some λ_=>bN
 |t::r=>match r with
  | []=>T.t sc t
  |_=>none
noncomputable def yd:Int->Bool
 | .ofNat 0=>true
 |_=>false
noncomputable def GP(sc:SC)(o:kT)(elt:PySem.Expr)(gs:List Comprehension)(scope:Scope):Option (aD->DE):=match gs with
 | []=>none
 |⟨tg,iter,ifs,a⟩::gs=>if(yd a&&rE sc scope)=true then(TM tb T sc o (ev tg) iter (ev iter)).bind λg=>(Ox (iw sc scope) (ev tg)).bind λbd=>(v_ T (iw sc scope) ifs).bind λt=>match gs with
  | []=>(T.e (iw sc scope) .no elt).map λf c=>a_ (pN sc scope) (g c) bd (t c) (gu (f c)) [] (DX o)
  |⟨n9,cE,gW,a2⟩::r=>match r with
   | []=>if yd a2=true then(TM tb T (iw sc scope) .no (ev n9) cE (ev cE)).bind λg2=>(Ox (iw sc scope) (ev n9)).bind λZ1=>(v_ T (iw sc scope) gW).bind λt2=>(T.e (iw sc scope) .no elt).map λf c=>a_ (pN sc scope) (g c) bd (t c) (RX (g2 c) Z1 (t2 c) (f c)) [] (DX o)else none
   |_=>none
  else none
noncomputable def ZX(sc:SC)(o:kT)(k v:PySem.Expr)(gs:List Comprehension)(scope:Scope):Option (aD->DE):=match gs with
 | []=>none
 |⟨tg,iter,ifs,a⟩::gs=>if(yd a&&rE sc scope&&gs.isEmpty&&mE (oH o).2)=true then(TM tb T sc .no (ev tg) iter (ev iter)).bind λg=>(Ox (iw sc scope) (ev tg)).bind λbd=>(v_ T (iw sc scope) ifs).bind λt=>
   (T.e (iw sc scope) .no k).bind λf=>(T.e (iw sc scope) .no v).map λf' c=>a_ (pN sc scope) (g c) bd (t c) (WE (f c) (f' c)) (oH o).2 Cu
  else none
end
section
variable{G:Gd}{ah:Heap}{Fa:aP G ah}{dec:Addr}{M N:Nat}{c:aD}{tb:xY}{T:gY}{sc:SC}{cx:Cx}{o:kT}{x:Str}{scope:Scope}
theorem qJ(Y:cW G ah sc cx):∀{es:List PySem.Expr}{is:List Nat},sf sc es=some is->Jt G cx es is
 | [],_,h=>by cases h;exact⟨.nil,rfl⟩
 |e::r,is,h=>by
  refine bind_some (x:=Qf (ev e)) h λx h0 h9=> ?_;obtain⟨p,hv⟩:=Lp h0;cases fJ hv rfl;refine bind_some h9 λi h1 h=>aM h λjs h2 h=> ?_;clear h9;subst h;obtain⟨hx,hk⟩:=Y.put h1;have ih:=qJ Y h2;refine⟨.cons ⟨_,hx,hk,λh=>wpAny_assign_Name h⟩ ih.al, ?_⟩;show List.findIdx? _ (_::assignEach r cx.en)=none;rw[List.findIdx?_cons,ih.ns];rfl
theorem qc(Y:cW G ah sc cx)(ok:oQ cx)(h:Ox sc (ev tg)=some bd):NU (G:=G) (ah:=ah) cx tg bd:=by
 cases hv:ev tg<;>rw[hv]at h<;>first |(cases h;done) |skip
 ·cases fJ hv rfl;exact aM h λi h1 h=>h▸LS ok (Y.put h1).1 (Y.put h1).2
 ·cases fJ hv rfl;exact aM h λi h1 h=>h▸Qw ok (qJ Y h1)
theorem oW(h:yd a=true):a=0:=by
 cases a with
 |ofNat n=>cases n with
  |zero=>rfl
  |succ=>cases h
 |negSucc=>cases h
theorem kK(h:vF k=true):k= .function:=by cases k<;>first |rfl |cases h
theorem mu(h:iS (jh sc names) i=some x):iS sc.vis i=some x/\names.lookup x=some .free/\i < sc.vis.length:=by
 refine cps λPP kk=> ?_;obtain⟨y,h1,h2⟩:=bS h;clear h;obtain⟨z,h3,rfl⟩:=mS (gB.symm.trans h1);obtain⟨w,h4,h5⟩:=bS (show z.bind _=some x from h2);obtain⟨h6,h7⟩:=bP h5;refine kk ?_;clear kk;cases h7;exact⟨by unfold iS;rw[h3,h4];rfl,qv h6,(List.getElem?_eq_some_iff.mp h3).1⟩
theorem qQ(h:iS (jP sc scope.names) i=some x):(iS sc.vis i=some x/\scope.names.lookup x=some .free)\/(x ∈ qj scope.names/\i ∈ pN sc scope):=by
 have len:(jh sc scope.names).length=sc.vis.length:=cO _;obtain⟨y,h1,h2⟩:=bS h
 by_cases q:i < sc.vis.length
 ·refine .inl ?_;have:=mu (sc:=sc) (names:=scope.names) (x:=x) (i:=i) (by unfold iS;rw[<-List.getElem?_append_left (by rw[len];exact q),show(jh sc scope.names++(qj scope.names).map some)[i]? =some y from h1];exact h2);exact⟨this.1,this.2.1⟩
 ·have q:=Nat.le_of_not_lt q;have h1:(jh sc scope.names++(qj scope.names).map some)[i]? =some y:=h1;rw[Az (by rw[len];exact q),len]at h1;obtain⟨z,h3,rfl⟩:=mS (gB.symm.trans h1);clear h;cases h2;exact .inr ⟨vX h3,cX.mpr ⟨_,List.mem_range.mpr (nc.mp h3).1,Nat.add_sub_of_le q⟩⟩
inductive Q_(G:Gd)(ah:Heap)(sc:SC)(scope:Scope)(cx:Cx):Prop
 |mk (ok:oQ cx) (K:mO cx scope (iS (jP sc scope.names))) (hn:∀i x,iS (jP sc scope.names) i=some x->scope.names.lookup x=some .local->i ∈ pN sc scope) (Y:∀cl C,oQ (An cx scope cl C (iS (jP sc scope.names)))->cW G ah (iw sc scope) (An cx scope cl C (iS (jP sc scope.names))))
theorem tO(h:rE sc scope=true)(Y:cW G ah sc cx):Q_ G ah sc scope cx:=by
 obtain⟨h,h4⟩:=bA h;obtain⟨h,h3⟩:=bA h;obtain⟨h1,h2⟩:=bA h;have ok:=Y.WS (by cases q:sc.lam<;>rw[q]at h1<;>first |rfl |cases h1);have h4:=cZ.mp h4;have own:∀{x},x ∈ qj scope.names->scope.names.lookup x=some .local:=λ{x} hx=>by
  obtain⟨y,hy,e⟩:=List.mem_filterMap.mp hx;obtain⟨e1,q⟩:=bP e;clear e hx;cases q;have:=h4 y hy;rw[NameKind.Bj e1]at this;exact qv this
 have K:mO cx scope (iS (jP sc scope.names)):={
  kind:=kK h2
  qo:=λy hy e=>by have:=h4 y hy;rw[e]at this;cases this
  Sx:=λy hy e=>by have:=h4 y hy;rw[e]at this;exact qv this
  free:=λy hy e=>by have:=h4 y hy;rw[e]at this;exact Y.xW this
  vis:=λi x e=>(qQ e).elim (λh=> .inr ⟨h.2,(Y.vis i).trans h.1⟩) λh=> .inl (own h.1)
  inj:=λi j x a b=>p_ h3 a b
  names:=λi x a=>jH h3 a}
 refine⟨ok,K,λi x e hl=>(qQ e).elim (λh=>by rw[hl]at h;cases h.2) (λZ=>Z.2),λcl C Ku=>⟨Ku.toCxOk,λZ=>Ku,λx=> ?_,λZ=>rfl,λq=>Bool.noConfusion q,λZ q=>aK q⟩⟩;refine(gO cx.en scope.names x).trans ((?_:_=_).trans (ou (λZ k=>zo k) scope.names x).symm);cases hl:scope.names.lookup x with
 |none=>rfl
 |some k=>
  have:=(gO cx.en scope.names x).symm.trans (K.G1 (cl:=cl) (C:=C) ok hl);rw[hl]at this;refine this.trans ?_;clear Ku hl;cases k<;>rfl
inductive Vq(Fa:aP G ah)(N:Nat)(cx:Cx)(e tg:PySem.Expr)(g:DI):Prop
 |mk (h:Ma Fa N cx e tg g) (hs:∀x,foldedSetIterable e cx.en x=pure x)
theorem kI(Z:m9 Fa M c T)(h:sW T sc e=some g)(hN:sc.lv M<=N)(Y:cW G ah sc cx):Vq Fa N cx e tg (g c):=by
 obtain⟨hs,h⟩:=bP h;exact aM h λf h1 h=>h▸⟨QA (Z.e h1 hN Y),m7 hs⟩
theorem qE(L:rI Fa dec M c tb)(Y:cW G ah sc cx)(h:sc.blt tb x=some b):SG Fa cx (.Name x p) (Es b):=by
 obtain⟨hg,h⟩:=bP h;obtain⟨m1,m2,m3⟩:=L.blt _ (gF h);exact BR Y.ok (Y.glob hg).1 (Y.glob hg).2 m1 m2 m3
theorem E7(h:(ev tg).isTup=true):∃es k p,tg= .Tuple es k p:=by
 cases hv:ev tg<;>rw[hv]at h<;>first |(cases h;done) |exact⟨_,_,_,fJ hv rfl⟩
set_option tactic.hygienic true in
theorem wX(L:rI Fa dec M c tb)(Z:m9 Fa M c T)(h:TM tb T sc o (ev tg) e (ev e)=some g)(hN:sc.lv M<=N)(Y:cW G ah sc cx):Vq Fa N cx e tg (g c):=by
 cases hv:ev e<;>rw[hv]at h<;>first |exact kI Z h hN Y |skip
 rename_i f es ks p;cases ks with
 |cons=>exact kI Z h hN Y
 |nil=>
  cases fJ hv rfl;have h:Zr tb T sc o (ev tg) (.Call f es [] p) es p (ev f)=some g:=h;cases hf:ev f<;>rw[hf]at h<;>first |exact kI Z h hN Y |skip
  ·rename_i x p';cases fJ hf rfl;have h:Zs T sc (ev tg) (.Call (.Name x p') es [] p) es (sc.blt tb x)=some g:=h;cases hb:sc.blt tb x with
   |none=>rw[hb]at h;exact kI Z h hN Y
   |some b=>
    rw[hb]at h;have hg:=qE (p:=p') L Y hb;cases b<;>first |exact kI Z h hN Y |skip
    ·exact aM h λfs h1 h=>h▸⟨Jf hg ((dW Z h1).1 hN Y) (dW Z h1).2 jk,m7 rfl⟩
    ·obtain⟨ht,h⟩:=bP h;obtain⟨_,_,_,rfl⟩:=E7 ht;exact aM h λfs h1 h=>h▸⟨QW hg ((dW Z h1).1 hN Y) (dW Z h1).2 jk,m7 rfl⟩
  ·rename_i ob x apos;cases fJ hf rfl;have h:(if(kR x "items"&&(ev tg).isTup&&es.isEmpty&&qp ob [] apos p)=true then(T.e sc o ob).map λf c=>qB (f c)else sW T sc _)=some g:=h;cases hq:(kR x "items"&&(ev tg).isTup&&es.isEmpty&&qp ob [] apos p)with
   |false=>rw[hq]at h;exact kI Z h hN Y
   |true=>
    rw[hq]at h;have h9:((T.e sc o ob).map λf c=>qB (f c))=some g:=h;obtain⟨hq,h4⟩:=bA hq;obtain⟨hq,h3⟩:=bA hq;obtain⟨h1,h2⟩:=bA hq;obtain⟨_,_,_,rfl⟩:=E7 h2;clear hq hf;cases iU h1;clear hv;cases nZ.mp h3;obtain⟨pl,hs⟩:=wR (name:="items") (env:=cx.en) h4;exact aM h9 λf h1 h=>h▸⟨Jg (Z.e h1 hN Y) hs,m7 rfl⟩
theorem mT(Z:m9 Fa M c T)(h:v_ T sc es=some t)(hN:sc.lv M<=N)(Y:cW G ah sc cx):qD Fa N cx es (t c):=by
 cases es with
 |nil=>cases h;exact Ey
 |cons e r=>cases r with
  |nil=>exact Ew (Z.t h hN Y)
  |cons=>cases h
theorem Co:xP G ah (EE G) (DX o):=by
 unfold DX;cases o.CJ with
 |true=>exact F9
 |false=>exact F8
theorem Cp(a:List D)(ob:az):dY (DX o a ob):=by
 unfold DX;cases o.CJ with
 |true=>exact HJ a ob
 |false=>exact Gr a ob
inductive Ja(Fa:aP G ah)(N:Nat)(cx:Cx)(elt:PySem.Expr)(gs0:List Comprehension)(scope:Scope)(pos:Pos)(d:DE):Prop
 |mk (tg iter:PySem.Expr) (ifs:List PySem.Expr) (gs:List Comprehension) (p:Pos) (dD:Nat->Option Str) (own:List Nat) (g:DI) (bd:V->bL->az->aR bL) (t:DT) (emit:Env->Addr->Sem Unit) (st:List D->bL->az->aR (List D×bL)) (out:List D->az->aR V) (e:gs0=⟨tg,iter,ifs,0⟩::gs)
  (T:z8 G (.ListComp elt (⟨tg,iter,ifs,0⟩::gs) scope pos) tg ifs p (EE G) emit [] (dF [] 0) (newList [])) (Z:Ae Fa N cx scope dD iter tg ifs own g bd t (EE G) emit st) (ho:xP G ah (EE G) out) (hn:∀a o,dY (out a o)) (ed:d=a_ own g bd t st [] out)
theorem CB(h:rE sc scope=true)(hN:sc.lv M<=N):(iw sc scope).lv M<=N:=by
 obtain⟨h,_⟩:=bA h;obtain⟨h,_⟩:=bA h;obtain⟨h,_⟩:=bA h;unfold SC.lv at hN;cases q:sc.lam with
 |true=>rw[q]at h;cases h
 |false=>rw[q]at hN;exact hN
theorem yU(L:rI Fa dec M c tb)(Z:m9 Fa M c T)(h:GP tb T sc o elt gs scope=some f)(hN:sc.lv M<=N)(Y:cW G ah sc cx):Ja Fa N cx elt gs scope pos (f c):=by
 cases gs with
 |nil=>cases h
 |cons g0 gs=>
  obtain⟨tg,iter,ifs,a⟩:=g0;obtain⟨hq,h9⟩:=bP h;obtain⟨ha,hc⟩:=bA hq;clear hq;cases oW ha;have Jz:=CB hc hN;refine bind_some h9 λg h1 h=>bind_some h λbd h2 h=>bind_some h λt h3 h=>(wX L Z h1 hN Y).rec λhg hs=>(tO hc Y).rec λok K hn W=> ?_;cases gs with
  |nil=>exact aM h λf h4 h=>h▸⟨tg,iter,ifs,[],iter.pos,_,_,_,bd,_,_,_,_,rfl,D_,⟨ok,K,hg,λcl C k=>qc (W cl C k) k h2,λcl C k=>mT Z h3 Jz (W cl C k),λcl C k=>zX (Z.e h4 Jz (W cl C k)),hn,hs⟩,Co,Cp,rfl⟩
  |cons g1 gs=>
   obtain⟨n9,cE,gW,a2⟩:=g1;cases gs with
   |cons=>cases h
   |nil=>
    obtain⟨ha2,h⟩:=bP h;clear h9;cases oW ha2;exact bind_some h λg2 h4 h=>bind_some h λZ1 h5 h=>bind_some h λt2 h6 h=>aM h λf h7 h=>h▸⟨tg,iter,ifs,[⟨n9,cE,gW,0⟩],iter.pos,_,_,_,bd,_,_,_,_,rfl,HO,⟨ok,K,hg,λcl C k=>qc (W cl C k) k h2,λcl C k=>mT Z h3 Jz (W cl C k),
     λcl C k=>(wX L Z h4 Jz (W cl C k)).rec λhg2 hs2=>Mc k hg2 (qc (W cl C k) k h5) (mT Z h6 Jz (W cl C k)) (Z.e h7 Jz (W cl C k)) hs2,hn,hs⟩,Co,Cp,rfl⟩
theorem Ja.se(h:Ja Fa N cx elt gs scope pos d):SE Fa N cx (.ListComp elt gs scope pos) d:=h.rec λtg iter ifs gs p dD own g bd t emit st out e T Z ho hn ed=>by
 clear h;subst e;subst ed;exact Dh T Z ho hn rfl rfl
theorem Ja.asg(h:Ja Fa N cx elt gs scope pos d)(hy:cx.vis iy=some y)(hk:IM cx y)(hsw:swapsWith (.ListComp elt gs scope pos) (some (.Name y yp)) spos.line cx.en=pure true):
  S1 Fa N cx (.Assign [.Name y yp] (.ListComp elt gs scope pos) spos) (ay iy d):=h.rec λtg iter ifs gs p dD own g bd t emit st out e T Z ho hn ed=>by
 clear h;subst e;subst ed;exact uQ hy hk T Z ho hn hsw
theorem Qm(L:rI Fa dec M c tb)(Z:m9 Fa M c T)(h:ZX tb T sc o k v gs scope=some f):z6 Fa M c sc (.DictComp k v gs scope pos) f:=λ{N cx} hN Y=>by
 cases gs with
 |nil=>cases h
 |cons g0 gs=>
  obtain⟨tg,iter,ifs,a⟩:=g0;obtain⟨hq,h9⟩:=bP h;obtain⟨hq,he⟩:=bA hq;obtain⟨hq,hn⟩:=bA hq;obtain⟨ha,hc⟩:=bA hq;clear hq;cases oW ha;clear hq;cases nZ.mp hn;have Jz:=CB hc hN;exact bind_some h9 λg h1 h=>bind_some h λbd h2 h=>bind_some h λt h3 h=>bind_some h λf h4 h=>aM h λf' h5 h=>(wX L Z h1 hN Y).rec λhg hs=>(tO hc Y).rec λok K hn W=>h▸
   Dh (Ea he) ⟨ok,K,hg,λcl C k=>qc (W cl C k) k h2,λcl C k=>mT Z h3 Jz (W cl C k),λcl C k=>IX (Z.e h4 Jz (W cl C k)) (Z.e h5 Jz (W cl C k)),hn,hs⟩ F_ (λU U=>dY.bx λU=> .ok) rfl rfl
end
set_option genCtorIdx false in
inductive MK |app |ext |pop |Lq |get |join |pair |sh (id:Nat)
noncomputable def OI:MK->V->az->Bool
 | .app=>nu
 | .ext=>nu
 | .pop=>nu
 | .Lq=>oZ
 | .get=>oZ
 | .join=>OJ
 | .pair=>vD
 | .sh _=>aI
noncomputable def u6:EV->Bool
 | .name x _=>kR x "shelf"||kR x "self"
 |_=>false
noncomputable def wK(a:Arguments):Bool:=a.posonlyargs.isEmpty&&a.args.isEmpty&&a.vararg.isNone&&a.kwonlyargs.isEmpty&&a.kw_defaults.isEmpty&&a.kwarg.isNone&&a.defaults.isEmpty
noncomputable def MV(sc:SC)(scope:Scope):SC:={names:=scope.names,vis:=jh sc scope.names,top:=false,tab:=none,lam:=true,MF:=[],ret:= .no,Ju:= .no,wh:=0}
noncomputable def GY(sc:SC)(scope:Scope):Bool:= !sc.lam&&vF scope.kind&& !scope.isGenerator&& !scope.isCoroutine&&oX (jh sc scope.names)&&scope.names.all λy=>match y.2 with
 | .cell=>false
 | .free=>xW sc.names y.1 .cell
 |_=>true
noncomputable def Tv(a:Arguments):Bool:=wK {a with args:=[]}&&match a.args with
 | [p]=>kR p.arg "pair"
 |_=>false
noncomputable def W_(s:Scope):Bool:=vF s.kind&& !s.isGenerator&& !s.isCoroutine&&match s.names with
 | [y]=>kR y.1 "pair"&&NameKind.M8 y.2 .local
 |_=>false
noncomputable def G9:PySem.Expr->Bool
 | .Constant (.int i) _ _=>yd i
 |_=>false
noncomputable def CI:EV->Bool
 | .name x _=>kR x "pair"
 |_=>false
noncomputable def Xa:EV->Bool
 | .sub c k _=>CI (ev c)&&G9 k
 |_=>false
noncomputable def G6(a:Arguments)(s:Scope)(b:EV):Bool:=Tv a&&W_ s&&Xa b
section
variable(tb:xY)(T:gY)
noncomputable def gK(c:aD):MK->List V->az->aR V
 | .app=>i7 fG
 | .ext=>i7 jL
 | .pop=>bB Br
 | .Lq=>i7 HS
 | .get=>pF
 | .join=>i7 CX
 | .pair=>c tb.pair
 | .sh id=>c id
noncomputable def Qt:List (Str×MK):=[("append", .app),("extend", .ext),("join", .join),("pair", .pair)]
noncomputable def GF(obv:EV)(x:Str)(es:List PySem.Expr):Option MK:=if(kR x "get"&& !u6 obv)=true then some .get else match gG tb.mY x with
 |some id=>some (.sh id)
 |none=>if kR x "pop"=true then some (if es.isEmpty=true then .pop else .Lq)else gG Qt x
noncomputable def MR(sc:SC)(ob:PySem.Expr)(x:Str)(es:List PySem.Expr)(apos pos:Pos):Option (aD->DE):=if qp ob es apos pos=true then(T.e sc .no ob).bind λf=>(zC T sc es []).bind λfs=>(GF tb (ev ob) x es).map λk c=>aO (OI k) (gK tb c k) (f c) (fs c)else none
noncomputable def AE(sc:SC)(es:List PySem.Expr):Option (aD->DE):=match es with
 | []=>none
 |e::r=>match ev e with
  | .lam a b s _=>sc.tab.bind λj=>if(r.isEmpty&&wK a&&GY sc s)=true then(T.e (MV sc s) .no b).map λf c=>gQ j j (f c)else none
  |_=>none
noncomputable def Nj(sc:SC)(es:List PySem.Expr):GK->Option (aD->DE)
 | .fn id=>(zC T sc es []).map λfs c=>aq (c id) (fs c)
 | .cls cl k fW=>(zC T sc es []).map λfs c=>aq (jZ cl k fW) (fs c)
 | .bV=>(zC T sc es [.emp (.dict .ki []), .emp (.dict .ks [])]).map λfs c=>aq (i7 mz) (fs c)
 | .tried=>AE T sc es
 |_=>none
noncomputable def tcB:BK->Option TC
 | .bool=>some .bool
 | .int=>some .int
 | .list=>some .list
 | .dict=>some .dict
 |_=>none
noncomputable def tcG:GK->Option TC
 | .cls cl _ _=>some (.cls cl)
 | .dec=>some .dec
 |_=>none
noncomputable def OC(x:Str):Option TC:=match gG tb.glob x with
 |some g=>tcG g
 |none=>(gG tb.blt x).bind tcB
noncomputable def PE(sc:SC)(es:List PySem.Expr):Option (aD->DE):=match es with
 | [e,ce]=>match ev ce with
  | .name x _=>if(sc.glob x&&noStar e)=true then(OC tb x).bind λt=>(T.e sc .no e).map λf c=>fz t (f c)else none
  |_=>none
 |_=>none
noncomputable def UO(sc:SC)(o:kT)(es:List PySem.Expr)(b:BK):Option (aD->DE):=match b with
 | .PF=>PE tb T sc es
 | .dict=>(zC T sc es []).map λfs c=>aq (bB (gw (oH o).1 (oH o).2)) (fs c)
 |b=>(bF b).bind λg=>(zC T sc es []).map λfs c=>aq g (fs c)
noncomputable def Iq(sc:SC)(o:kT)(x:Str)(es:List PySem.Expr):Option (aD->DE):=match sc.var x with
 |some i=>(zC T sc es []).map λfs c=>xB (af i) (λ_=>c tb.plain) (fs c)
 |none=>if sc.glob x=true then(match gG tb.glob x with
  |some g=>Nj T sc es g
  |none=>(gG tb.blt x).bind (UO tb T sc o es))else none
noncomputable def G_:BK->Bool
 | .sorted=>true
 |_=>false
noncomputable def PB(sc:SC)(x:Str)(es:List PySem.Expr)(k:Keyword):Option (aD->DE):=match es with
 | [e]=>match k.arg with
  |some a=>match ev k.value with
   | .lam p b s _=>sc.tab.bind λj=>(sc.blt tb x).bind λbk=>if(G_ bk&& !sc.lam&&noStar e&&kR a "key"&&G6 p s (ev b))=true then(T.e sc .no e).map λf c=>pJ j j (aa (f c) ak)else none
   |_=>none
  |none=>none
 |_=>none
noncomputable def NH(sc:SC)(o:kT)(es:List PySem.Expr)(ks:List Keyword)(pos:Pos):EV->Option (aD->DE)
 | .name x _=>match ks with
  | []=>Iq tb T sc o x es
  |k::r=>if r.isEmpty=true then PB tb T sc x es k else none
 | .attr ob x apos=>if ks.isEmpty=true then MR tb T sc ob x es apos pos else none
 |_=>none
end
section
variable{G:Gd}{ah:Heap}{Fa:aP G ah}{dec:Addr}{M N:Nat}{c:aD}{tb:xY}{T:gY}{sc:SC}{cx:Cx}{o:kT}{x:Str}{scope:Scope}
inductive Vl(Fa:aP G ah)(N:Nat)(x:Str)(sel:V->az->Bool)(g:List V->az->aR V):Prop
 |mk (v:Value) (hm:BQ Fa N x v sel) (hk:Dl Fa v) (hf:kQ Fa N v g)
theorem LO(L:rI Fa dec M c tb)(hM:M<=N)(h:(x,k) ∈ Qt):Vl Fa N x (OI k) (gK tb c k):=by
 rcases cN.mp h with e |h
 ·clear h;cases e;exact⟨_,BV PySem.F.slot_list_append rfl,nQ,Jp.fn⟩
 rcases cN.mp h with e |h
 ·clear h;cases e;exact⟨_,BV PySem.F.slot_list_extend rfl,nQ,Jo.fn⟩
 rcases cN.mp h with e |h
 ·clear h;cases e;exact⟨_,Mj lG rfl,nQ,Q4.fn⟩
 cases dQ.mp h;exact L.pair.rec λf O hn hk hf=>⟨_,Vk O hn,hk,hf.up hM⟩
theorem GD(L:rI Fa dec M c tb)(hM:M<=N)(h:GF tb v x es=some k):Vl Fa N x (OI k) (gK tb c k):=by
 unfold GF at h;cases hq:(kR x "get"&& !u6 v)with
 |true=>
  rw[hq]at h;cases h;cases iU (bA hq).1;exact⟨_,I9 PySem.F.slot_dict_get rfl,nQ,Vy⟩
 |false=>
  rw[hq]at h;cases hm:gG tb.mY x with
  |some id=>
   rw[hm]at h;cases h;exact(L.mY _ (gF hm)).rec λf O hn hk hf=>⟨_,Mi O hn,hk,hf.up hM⟩
  |none=>
   rw[hm]at h;have h:(if kR x "pop"=true then some (if es.isEmpty=true then MK.pop else .Lq)else gG Qt x)=some k:=h;cases hp:kR x "pop" with
   |false=>rw[hp]at h;exact LO L hM (gF h)
   |true=>
    rw[hp]at h;clear hm hq;cases iU hp;cases he:es.isEmpty with
    |true=>rw[he]at h;cases h;exact⟨_,BV PySem.F.slot_list_pop rfl,nQ,Vw.fn⟩
    |false=>rw[he]at h;cases h;exact⟨_,I9 PySem.F.slot_dict_pop rfl,nQ,Q5.fn⟩
theorem GG(L:rI Fa dec M c tb)(Z:m9 Fa M c T)(h:MR tb T sc ob x es apos pos=some f):z6 Fa M c sc (.Call (.Attribute ob x apos) es [] pos) f:=λ{N cx} hN Y=>by
 obtain⟨hm,h⟩:=bP h;refine bind_some h λf h1 h=>bind_some h λfs h2 h=>aM h λk h3 h=> ?_;subst h;obtain⟨pl,hs⟩:=wR (name:=x) (env:=cx.en) hm;exact(GD L (CA hN) h3).rec λv hm hk hf=>Qz (Z.e h1 hN Y) hm hk hf ((dW Z h2).1 hN Y) (dW Z h2).2 hs
end
section
variable{G:Gd}{ah:Heap}{Fa:aP G ah}{dec:Addr}{M N:Nat}{c:aD}{tb:xY}{T:gY}{sc:SC}{cx:Cx}{o:kT}{x:Str}{scope:Scope}
theorem Bool.jW(h:(!b)=true):b=false:=by cases b<;>first |rfl |cases h
theorem Pj(e1:a=[])(e3:v=none)(e4:k=[])(e5:kd=[])(e6:w=none)(e7:d=[]):Arguments.mk a b v k kd w d=⟨[],b,none,[],[],none,[]⟩:=by
 subst e1 e3 e4 e5 e6 e7;rfl
theorem sI{a:Arguments}(h:wK {a with args:=l}=true):a=⟨[],a.args,none,[],[],none,[]⟩/\l=[]:=by
 obtain⟨a1,a2,a3,a4,a5,a6,a7⟩:=a;exact
 have h6:=bA h;have h5:=bA h6.1;have h4:=bA h5.1;have h3:=bA h4.1;have h2:=bA h3.1;have h1:=bA h2.1
 ⟨Pj (nZ.mp h1.1) (EO.mp h2.2) (nZ.mp h3.2) (nZ.mp h4.2) (EO.mp h5.2) (nZ.mp h6.2),nZ.mp h1.2⟩
theorem DY(h:wK a=true):a=⟨[],[],none,[],[],none,[]⟩:=by
 obtain⟨h1,h2⟩:=sI (a:=a) (l:=a.args) h;rw[h2]at h1;exact h1
theorem TabAt.lam(h:TabAt G ah cx j)(hd:defaultsOf params cx.en=([],[])):Dk G ah cx params j:=h.rec λa b d=>⟨hd,a,b,d⟩
theorem D3(h:GY sc scope=true)(Y:cW G ah sc cx):sc.lam=false/\Dj scope [] (iS (jh sc scope.names))/\(∀y ∈ scope.names,y.2= .free->cx.en.kindOf y.1=some .cell)/\∀q L f cdv clos,cW G ah (MV sc scope) (yX scope q L f cdv clos (iS (jh sc scope.names))):=by
 refine cps λPP kk=> ?_;obtain⟨h,h6⟩:=bA h;obtain⟨h,h5⟩:=bA h;obtain⟨h,h4⟩:=bA h;obtain⟨h,h3⟩:=bA h;obtain⟨h1,h2⟩:=bA h;refine kk ?_;clear kk;have h6:=cZ.mp h6;exact⟨Bool.jW h1,⟨kK h2,Bool.jW h3,Bool.jW h4,λy hy e=>(by have:=h6 y hy;rw[e]at this;cases this),nh,(λx hx=>nomatch hx),λi j x a b=>p_ h5 a b,λi x a=>jH h5 a⟩,
  λy hy e=>(by have:=h6 y hy;rw[e]at this;exact Y.xW this),
  λq L f cdv clos=>⟨⟨kK h2,rfl,rfl,λi x a=>jH h5 a⟩,λq=>Bool.noConfusion q,λZ=>rfl,λZ=>rfl,λq=>Bool.noConfusion q,λZ q=>aK q⟩⟩
theorem Zj(h:sc.lam=false)(hN:sc.lv M<=N):∃K,N=K+3/\M<=K:=by
 unfold SC.lv at hN;rw[h]at hN;have hN:M+3<=N:=hN;obtain⟨k,rfl⟩:=Nat.exists_eq_add_of_le hN;exact⟨M+k,by rw[Nat.add_right_comm],fN _ _⟩
theorem DC(Z:m9 Fa M c T)(hx:xM Fa x)(hg:sc.glob x=true)(h:AE T sc es=some f):z6 Fa M c sc (.Call (.Name x p) es [] pos) f:=λ{N cx} hN Y=>by
 cases es with
 |nil=>cases h
 |cons e r=>
  unfold AE at h;dsimp only at h;cases hv:ev e<;>rw[hv]at h<;>first |(cases h;done) |skip
  cases fJ hv rfl;refine bind_some h λj hj h=> ?_;obtain⟨hq,h9⟩:=bP h;obtain⟨hq,hc⟩:=bA hq;obtain⟨hr,ha⟩:=bA hq;cases nZ.mp hr;clear hq hv;cases DY ha;refine cps λPP kk=> ?_;obtain⟨hl,ok,fr,W⟩:=D3 hc Y;obtain⟨K,rfl,hK⟩:=Zj hl hN;refine kk ?_;clear kk;refine aM h9 λf h1 h=> ?_;clear h9;subst h;exact hx.rec λfa fx iI c9 mF k1 k2 k3 p1 p2 p3 p4 p5 p6 p7 p8 p9 yI Ai Ah yH yG Jw Kp Ko F7 F6 XO hm hk ZZ ZT ie=>LV XO (Y.WS hl) (kP Y.ok (Y.glob hg).1 (Y.glob hg).2 hm) hk ZZ ZT ie
   ⟨(Y.tab j hj).lam rfl,ok,fr,λi x e=>⟨(Y.vis i).trans (mu e).1,(mu e).2.1⟩,λU U U U=>rfl,λL f cdv clos=>Z.e h1 hK (W _ L f cdv clos)⟩ jk
theorem HM(L:rI Fa dec M c tb)(Z:m9 Fa M c T)(hk:gG tb.glob x=some g)(hg:sc.glob x=true)(h:Nj T sc es g=some f):z6 Fa M c sc (.Call (.Name x p) es [] pos) f:=λ{N cx} hN Y=>by
 have H:=L.glob _ (gF hk);have go:∀{g:List V->az->aR V}{os:List kT}{fs:aD->ug},FnAt Fa M x g->zC T sc es os=some fs->SE Fa N cx (.Call (.Name x p) es [] pos) (aq g (fs c)):=λhf h=>hf.rec λv hm hk hf=>BP (kP Y.ok (Y.glob hg).1 (Y.glob hg).2 hm) hk (hf.up (CA hN)) ((dW Z h).1 hN Y) (dW Z h).2 jk;clear hk;cases g with
 |fn id=>exact aM h λfs h1 h=>h▸go H h1
 |cls cl k fW=>exact aM h λfs h1 h=>h▸go H.1 h1
 |bV=>exact aM h λfs h1 h=>h▸go H h1
 |tried=>exact DC Z H hg h hN Y
 |_=>cases h
theorem JX(L:rI Fa dec M c tb)(Y:cW G ah sc cx)(hg:sc.glob x=true)(h:OC tb x=some t):SG Fa cx (.Name x p) (RQ G dec t):=by
 unfold OC at h;cases hk:gG tb.glob x with
 |some g=>
  rw[hk]at h;have H:=L.glob _ (gF hk);clear hk;cases g<;>first |(cases h;done) |skip
  ·cases h;exact kP Y.ok (Y.glob hg).1 (Y.glob hg).2 H.2
  ·cases h;exact kP Y.ok (Y.glob hg).1 (Y.glob hg).2 H
 |none=>
  rw[hk]at h;refine bind_some h λb h1 h=> ?_;have hb:=qE (p:=p) L Y (show sc.blt tb x=some b from(bw hg).trans h1);clear h1;cases b<;>first |(cases h;done) |(cases h;exact hb)
theorem K8(L:rI Fa dec M c tb)(Z:m9 Fa M c T)(hb:sc.blt tb x=some .PF)(h:PE tb T sc es=some f):z6 Fa M c sc (.Call (.Name x p) es [] pos) f:=λ{N cx} hN Y=>by
 rcases es with _ |⟨e,_ |⟨ce,_ |_⟩⟩<;>first |(cases h;done) |skip
 unfold PE at h;dsimp only at h;cases hv:ev ce<;>rw[hv]at h<;>first |(cases h;done) |skip
 cases fJ hv rfl;obtain⟨hq,h⟩:=bP h;obtain⟨hg,hn⟩:=bA hq;exact bind_some h λt h1 h=>aM h λf h2 h=>h▸U8 L.cls t (qE L Y hb) (Z.e h2 hN Y) (JX L Y hg h1) (gn hn) (gn rfl) rfl jk
theorem LL(L:rI Fa dec M c tb)(Z:m9 Fa M c T)(hb:sc.blt tb x=some b)(h:UO tb T sc o es b=some f):z6 Fa M c sc (.Call (.Name x p) es [] pos) f:=λ{N cx} hN Y=>by
 have go:((bF b).bind λg=>(zC T sc es []).map λfs c=>aq g (fs c))=some f->SE Fa N cx (.Call (.Name x p) es [] pos) (f c):=λh=>bind_some h λg h1 h=>aM h λfs h2 h=>h▸BP (qE L Y hb) (NJ (N:=N) h1).1 (NJ h1).2 ((dW Z h2).1 hN Y) (dW Z h2).2 jk;cases b<;>first |exact go h |skip
 ·exact aM h λfs h2 h=>h▸BP (qE L Y hb) t9 Q6.fn ((dW Z h2).1 hN Y) (dW Z h2).2 jk
 ·exact K8 L Z hb h hN Y
theorem Ip(L:rI Fa dec M c tb)(Z:m9 Fa M c T)(h:Iq tb T sc o x es=some f):z6 Fa M c sc (.Call (.Name x p) es [] pos) f:=λ{N cx} hN Y=>by
 unfold Iq at h;cases hv:sc.var x with
 |some i=>
  rw[hv]at h;exact aM h λfs h2 h=>h▸LY (zV Y.ok (Y.var hv)) (λk=>(L.plain k).1) (λk=>(L.plain k).2.up (CA hN)) ((dW Z h2).1 hN Y) (dW Z h2).2 jk
 |none=>
  rw[hv]at h;obtain⟨hg,h⟩:=bP h;cases hk:gG tb.glob x with
  |some g=>rw[hk]at h;exact HM L Z hk hg h hN Y
  |none=>
   rw[hk]at h;exact bind_some h λb h1 h=>LL L Z ((bw hg).trans h1) h hN Y
end
section
variable(tb:xY)(T:gY)
noncomputable def kT.Hh:kT->Bool
 | .pair=>true
 |_=>false
noncomputable def Om(sc:SC)(o:kT)(es:List PySem.Expr):Option (aD->DE):=if o.Hh=true then(zC T sc es [.no, .emp (.dict .kb [])]).map λfs c=>pK (fs c)else(zC T sc es []).map λfs c=>cB (fs c)
noncomputable def NI(sc:SC)(op:BoolOp)(es:List PySem.Expr):Option (aD->DE):=match es with
 | [x,y]=>(T.e sc .no x).bind λf=>(T.e sc .no y).map λg c=>(match op with | .And=>tM (f c) (g c) | .Or=>zG (f c) (g c))
 |_=>none
noncomputable def Lz{α:Type}(mk:(V->V->az->aR V)->DE->DE->α)(sc:SC)(l:PySem.Expr)(ops:List CmpOp)(rs:List PySem.Expr):Option (aD->α):=match ops with
 | [op]=>match rs with
  | [r]=>if behindInMarks op r=true then none else(UC op).bind λt=>(T.e sc .no l).bind λf=>(T.e sc .no r).map λg c=>mk t (f c) (g c)
  |_=>none
 |_=>none
noncomputable def M7:UnaryOp->Bool
 | .USub=>true
 |_=>false
noncomputable def M6:UnaryOp->Bool
 | .Not=>true
 |_=>false
noncomputable def My(sc:SC)(o:kT):PySem.Expr->Option (aD->DE)
 | .Name x _=>Gz tb sc x
 | .Constant k _ _=>(H9 k).map λd _=>ai d
 | .BinOp l op r _=>(UP op).bind λt=>(T.e sc .no l).bind λf=>(T.e sc .no r).map λg c=>aB t (f c) (g c)
 | .UnaryOp op e _=>if M7 op=true then(T.e sc .no e).map λf c=>zH (f c)else none
 | .BoolOp op es _=>NI T sc op es
 | .Compare l ops rs _=>Lz T aB sc l ops rs
 | .IfExp t b d _=>(T.t sc t).bind λk=>(T.e sc .no b).bind λf=>(T.e sc .no d).map λg c=>eW (k c) (f c) (g c)
 | .Attribute e x _=>if sE e=true then(T.e sc .no e).map λf c=>bq x (f c)else none
 | .Subscript x y _=>RW T sc x y (ev y)
 | .Tuple es _ _=>Om T sc o es
 | .List es _=>(zC T sc es []).map λfs c=>d8 o.CJ (fs c)
 | .Dict ks vs _=>ND T sc o ks vs
 | .ListComp elt gs scope _=>GP tb T sc o elt gs scope
 | .DictComp k v gs scope _=>ZX tb T sc o k v gs scope
 | .Call f es ks p=>NH tb T sc o es ks p (ev f)
 |_=>none
noncomputable def ID(sc:SC):List PySem.Expr->Option (aD->DT)
 | []=>some λ_=>bN
 |e::r=>(T.t sc e).bind λf=>(ID sc r).map λg c=>gS (f c) (g c)
noncomputable def O0(sc:SC):List PySem.Expr->Option (aD->DT)
 | []=>some λ_=>gR
 |e::r=>(T.t sc e).bind λf=>(O0 sc r).map λg c=>pL (f c) (g c)
noncomputable def FY(sc:SC)(e:PySem.Expr):Option (aD->DT):=if vc e=true then(T.e sc .no e).map λf c=>dG (f c)else none
noncomputable def stepT(sc:SC)(e:PySem.Expr):Option (aD->DT):=match e with
 | .Compare l ops rs _=>Lz T aE sc l ops rs
 | .BoolOp op es _=>(match op with | .And=>ID T sc es | .Or=>O0 T sc es)
 | .UnaryOp op e _=>if M6 op=true then(T.t sc e).map λf c=>pM (f c)else none
 |e=>FY T sc e
end
section
variable{G:Gd}{ah:Heap}{Fa:aP G ah}{dec:Addr}{M N:Nat}{c:aD}{tb:xY}{T:gY}{sc:SC}{cx:Cx}{o:kT}{x:Str}{scope:Scope}
inductive Jd(a:Arguments)(s:Scope)(b:PySem.Expr):Prop
 |mk (an:Option PySem.Expr) (p p1 p2 p3:Pos) (j:Nat) (e:a=⟨[],[⟨"pair",an,p⟩],none,[],[],none,[]⟩) (k:s.kind= .function) (g:s.isGenerator=false) (co:s.isCoroutine=false) (nm:s.names=[(("pair":Str), .local)]) (eb:b= .Subscript (.Name "pair" p1) (.Constant (.int 0) j p2) p3)
theorem K4(h:Tv a=true):∃an p,a=⟨[],[⟨"pair",an,p⟩],none,[],[],none,[]⟩:=by
 obtain⟨h1,h2⟩:=bA h;have e:=(sI h1).1;clear h h1;generalize a.args=l at e h2;subst e;rcases l with _ |⟨⟨x,an,p⟩,_ |_⟩
 ·cases h2
 ·cases iU h2;exact⟨an,p,rfl⟩
 ·cases h2
theorem KY(h:(match l with | [y]=>kR y.1 "pair"&&NameKind.M8 y.2 .local |_=>false)=true):l=[(("pair":Str), .local)]:=by
 rcases l with _ |⟨⟨y1,y2⟩,_ |_⟩
 ·cases h
 ·obtain⟨e1,e2⟩:=bA h;rw[show y1=_ from iU e1,show y2=_ from NameKind.Bj e2]
 ·cases h
theorem Bh(h:CI (ev e)=true):∃p,e= .Name "pair" p:=by
 cases hv:ev e<;>rw[hv]at h<;>first |(cases h;done) |skip
 cases iU h;exact⟨_,fJ hv rfl⟩
set_option tactic.hygienic true in
theorem D7(h:G9 e=true):∃j p,e= .Constant (.int 0) j p:=by
 cases e<;>first |(cases h;done) |skip
 rename_i k _ _;cases k<;>first |(cases h;done) |skip
 cases oW h;exact⟨_,_,rfl⟩
theorem D5(h:G6 a s (ev b)=true):Jd a s b:=by
 obtain⟨h,hb⟩:=bA h;obtain⟨ha,hs⟩:=bA h;obtain⟨an,p,ea⟩:=K4 ha;obtain⟨hs,h4⟩:=bA hs;obtain⟨hs,h3⟩:=bA hs;obtain⟨h1,h2⟩:=bA hs;cases hv:ev b<;>rw[hv]at hb<;>first |(cases hb;done) |skip
 obtain⟨b1,b2⟩:=bA hb;obtain⟨p1,e1⟩:=Bh b1;obtain⟨j,p2,e2⟩:=D7 b2;exact⟨an,p,p1,p2,_,j,ea,kK h1,Bool.jW h2,Bool.jW h3,KY h4,(fJ hv rfl).trans (by rw[e1,e2])⟩
noncomputable def Sh(x:Str)(i:Nat):Option Str:=match i with
 | 0=>some x
 |_=>none
theorem o_(h:Sh x i=some y):i=0/\y=x:=by
 cases i with
 |zero=>cases h;exact⟨rfl,rfl⟩
 |succ=>cases h
theorem PA(h:Jd a s b)(t:TabAt G ah cx j):∃x,Jb G ah Fa N cx a b s x (Sh x) j:=h.rec λan p p1 p2 p3 k e hk g co nm eb=>by
 subst e;subst eb;have lk:s.names.lookup ("pair":Str)=some .local:=by rw[nm,lV,lQ]
 refine⟨"pair",t.lam rfl, ?_,⟨hk,g,co,λy hy=> ?_,fU.mpr ⟨(λh=>nomatch h),nh⟩,λy hy=> ?_,λi j y a b=>(o_ a).1.trans (o_ b).1.symm,λi y e=> ?_⟩,λi y e=>o_ e,λpm cdv ctv u=>rfl,λL f cdv=> ?_⟩
 ·unfold closureFor;rw[nm];rfl
 ·rw[nm]at hy;cases dQ.mp hy;exact λq=>NameKind.noConfusion q
 ·cases dQ.mp hy;exact lk
 ·rw[(o_ e).2];exact mX rfl
 ·exact IT (zV (i:=0) ⟨hk,rfl,rfl,λi y e=>by rw[(o_ e).2];exact mX rfl⟩ rfl) NT B_
theorem K0(L:rI Fa dec M c tb)(Z:m9 Fa M c T)(h:PB tb T sc x es k=some f):z6 Fa M c sc (.Call (.Name x p) es [k] pos) f:=λ{N cx} hN Y=>by
 rcases es with _ |⟨e,_ |_⟩<;>first |(cases h;done) |skip
 obtain⟨ka,kv,kp⟩:=k;unfold PB at h;dsimp only at h;cases ka with
 |none=>cases h
 |some a=>
  dsimp only at h;cases hv:ev kv<;>rw[hv]at h<;>first |(cases h;done) |skip
  cases fJ hv rfl;refine bind_some h λj hj h=>bind_some h λbk hb h=> ?_;refine cps λPP kk=> ?_;obtain⟨hq,h9⟩:=bP h;obtain⟨hq,h5⟩:=bA hq;obtain⟨hq,h4⟩:=bA hq;obtain⟨hq,h3⟩:=bA hq;obtain⟨h1,h2⟩:=bA hq;obtain⟨K,rfl,hK⟩:=Zj (Bool.jW h2) hN;refine kk ?_;clear kk;cases iU h4;clear hq;cases bk<;>first |(cases h1;done) |skip
  obtain⟨y,z⟩:=PA (Fa:=Fa) (N:=K) (D5 h5) (Y.tab j hj);exact aM h9 λf h1 h=>h▸Ez Y.ok z (qE L Y hb) (Ds (Z.e h1 hN Y) Js (gn h3)) (gn h3) LI
end
section
variable{G:Gd}{ah:Heap}{Fa:aP G ah}{dec:Addr}{M N:Nat}{c:aD}{tb:xY}{T:gY}{sc:SC}{cx:Cx}{o:kT}{x:Str}{scope:Scope}
theorem Ir(L:rI Fa dec M c tb)(Z:m9 Fa M c T)(h:NH tb T sc o es ks pos (ev fn)=some f):z6 Fa M c sc (.Call fn es ks pos) f:=by
 cases hv:ev fn<;>rw[hv]at h<;>first |(cases h;done) |skip
 ·rcases fJ hv rfl with⟨⟩
  rcases ks with _ |⟨k,_ |_⟩
  ·exact Ip L Z h
  ·exact K0 L Z h
  ·cases h
 ·rcases fJ hv rfl with⟨⟩
  obtain⟨hk,h9⟩:=bP h;rcases nZ.mp hk with⟨⟩
  exact GG L Z h9
theorem Iv(Z:m9 Fa M c T)(h:NI T sc op es=some f):z6 Fa M c sc (.BoolOp op es pos) f:=λ{N cx} hN Y=>by
 rcases es with _ |⟨x,_ |⟨y,_ |_⟩⟩<;>first |(cases h;done) |skip
 refine bind_some h λf h1 h=>aM h λg h2 h=> ?_;subst h;clear h;cases op with
 |And=>exact Vb (Z.e h1 hN Y) (Z.e h2 hN Y)
 |Or=>exact YA (Z.e h1 hN Y) (Z.e h2 hN Y)
theorem C4{C:α->Prop}(Z:m9 Fa M c T)(h:Lz T mk sc l ops rs=some f)(hN:sc.lv M<=N)(Y:cW G ah sc cx)
  (k:∀op r t f g,ops=[op]->rs=[r]->SE Fa N cx l f->SE Fa N cx r g->behindInMarks op r=false->pT Fa N (compareOp op) t->C (mk t f g)):C (f c):=by
 rcases ops with _ |⟨op,_ |_⟩<;>first |(cases h;done) |skip
 rcases rs with _ |⟨r,_ |_⟩<;>first |(cases h;done) |skip
 unfold Lz at h;dsimp only at h;cases hb:behindInMarks op r with
 |true=>rw[hb]at h;cases h
 |false=>
  rw[hb]at h;exact bind_some h λt h1 h=>bind_some h λf h2 h=>aM h λg h3 h=>h▸k op r t (f c) (g c) rfl rfl (Z.e h2 hN Y) (Z.e h3 hN Y) hb (Ly h1)
theorem Hj(h:M7 op=true):op= .USub:=by cases op<;>first |rfl |cases h
theorem Hi(h:M6 op=true):op= .Not:=by cases op<;>first |rfl |cases h
theorem JW(Z:m9 Fa M c T)(h:Om T sc o es=some f):z6 Fa M c sc (.Tuple es k pos) f:=λ{N cx} hN Y=>by
 unfold Om at h;cases hq:o.Hh with
 |true=>rw[hq]at h;exact aM h λfs h1 h=>h▸Qx ((dW Z h1).1 hN Y)
 |false=>rw[hq]at h;exact aM h λfs h1 h=>h▸U4 ((dW Z h1).1 hN Y)
theorem Ft(L:rI Fa dec M c tb)(Z:m9 Fa M c T){e:PySem.Expr}(h:My tb T sc o e=some f):z6 Fa M c sc e f:=λ{N cx} hN Y=>by
 cases e with
 |Name x p=>exact Gy L h hN Y
 |Constant k j p=>exact aM h λd h1 h=>h▸Ej h1
 |BinOp l op r p=>exact bind_some h λt h1 h=>bind_some h λf h2 h=>aM h λg h3 h=>h▸Va (Z.e h2 hN Y) (Z.e h3 hN Y) (LN h1)
 |UnaryOp op e p=>
  obtain⟨hq,h9⟩:=bP h;cases Hj hq;exact aM h9 λf h1 h=>h▸U5 (Z.e h1 hN Y)
 |BoolOp op es p=>exact Iv Z h hN Y
 |Compare l ops rs p=>exact C4 Z h hN Y λop r t f g e1 e2 hl hr hm ho=>e1▸e2▸U_ hl hr hm ho
 |IfExp t b d p=>exact bind_some h λk h1 h=>bind_some h λf h2 h=>aM h λg h3 h=>h▸U7 (Z.t h1 hN Y) (Z.e h2 hN Y) (Z.e h3 hN Y)
 |Attribute e x p=>
  obtain⟨hq,h9⟩:=bP h;exact aM h9 λf h1 h=>h▸QD L.cls (Z.e h1 hN Y) (vO hq)
 |Subscript x y p=>exact J0 Z rfl h hN Y
 |Tuple es k p=>exact JW Z h hN Y
 |List es p=>exact aM h λfs h1 h=>h▸U6 ((dW Z h1).1 hN Y)
 |Dict ks vs p=>exact H7 Z h hN Y
 |ListComp elt gs s p=>exact(yU (pos:=p) L Z h hN Y).se
 |DictComp k v gs s p=>exact Qm L Z h hN Y
 |Call fn es ks p=>exact Ir L Z h hN Y
 |_=>cases h
theorem zQ(Z:m9 Fa M c T)(hN:sc.lv M<=N)(Y:cW G ah sc cx):∀{es:List PySem.Expr}{f:aD->DT},ID T sc es=some f->L0 Fa N cx .And es (f c)
 | [],_,h=>by cases h;exact BN
 |e::r,_,h=>bind_some h λf h1 h=>aM h λg h2 h=>h▸zT (Z.t h1 hN Y) (zQ Z hN Y h2)
theorem Cq(Z:m9 Fa M c T)(hN:sc.lv M<=N)(Y:cW G ah sc cx):∀{es:List PySem.Expr}{f:aD->DT},O0 T sc es=some f->L0 Fa N cx .Or es (f c)
 | [],_,h=>by cases h;exact Eu
 |e::r,_,h=>bind_some h λf h1 h=>aM h λg h2 h=>h▸BL (Z.t h1 hN Y) (Cq Z hN Y h2)
theorem Fd(Z:m9 Fa M c T)(h:FY T sc e=some f):YG Fa M c sc e f:=λ{N cx} hN Y=>by
 obtain⟨hq,h9⟩:=bP h;exact aM h9 λf h1 h=>h▸U0 AI (Z.e h1 hN Y) (AH hq)
theorem Fj(Z:m9 Fa M c T){e:PySem.Expr}(h:stepT T sc e=some f):YG Fa M c sc e f:=λ{N cx} hN Y=>by
 cases e with
 |Compare l ops rs p=>exact C4 Z h hN Y λop r t f g e1 e2 hl hr hm ho=>e1▸e2▸U3 AI hl hr hm ho
 |BoolOp op es p=>cases op with
  |And=>exact IL (zQ Z hN Y h)
  |Or=>exact IL (Cq Z hN Y h)
 |UnaryOp op e p=>
  obtain⟨hq,h9⟩:=bP h;cases Hi hq;exact aM h9 λf h1 h=>h▸U1 (Z.t h1 hN Y)
 |_=>exact Fd Z h hN Y
end
noncomputable def Bx:DS:=λ_ _=> .stuck
noncomputable def wB(sc:SC):List Str->Option (List Nat)
 | []=>some []
 |x::r=>(sc.put x).bind λi=>(wB sc r).map λis=>i::is
noncomputable def g8(kd:Str->Option NameKind)(line:Nat)(es:List PySem.Expr):List Str:=es.filterMap λ
 | .Name id pos=>if kd id==some .local&&pos.line==line then some id else none
 |_=>none
noncomputable def ow(es:List PySem.Expr):Nat:=(es.head?.map (λZ=>Z.pos.line)).getD 0
noncomputable def Fi(es vs:List PySem.Expr)(names:List Str):Bool:=(es.length==2||es.length==3)&&vs.length==es.length&&vs.all noStar&&names.length==es.length&&names.eraseDups.length==names.length&& !vs.all (foldedForSure 8)&& !vs.all (constantsAlone 8)
section
variable(tb:xY)(T:gY)
noncomputable def RD(sc:SC)(es:List PySem.Expr)(v:PySem.Expr)(t:EV):EV->Option (aD->DS)
 | .tup vs _ _=>if Fi es vs (g8 (pB sc.names) (ow es) es)=true then(wB sc (g8 (pB sc.names) (ow es) es)).bind λis=>(T.e sc sc.Ju v).map λf c=>dN (tV is) (f c)else none
 |_=>(Ox sc t).bind λbd=>(T.e sc sc.Ju v).map λf c=>dN bd (f c)
noncomputable def SC.at(sc:SC)(x:Str):kT:=(gG sc.MF x).getD .no
noncomputable def UR(sc:SC)(i:Nat)(x:Str)(v:PySem.Expr):EV->Option (aD->DS)
 | .lc elt gs s _=>(GP tb T sc (sc.at x) elt gs s).map λf c=>ay i (f c)
 |_=>if rj v=true then(T.e sc (sc.at x) v).map λf c=>ay i (f c)else none
noncomputable def US(sc:SC)(v:PySem.Expr)(t:EV):Option (aD->DS):=match t with
 | .name x _=>(sc.put x).bind λi=>UR tb T sc i x v (ev v)
 | .tup es _ _=>RD T sc es v t (ev v)
 | .sub d k _=>(T.e sc .no v).bind λf=>(T.e sc .no d).bind λg=>(T.e sc .no k).map λe c=>iu (f c) (g c) (e c)
 |_=>none
noncomputable def Ut(x:Str):Option Ex:=(gG tb.glob x).bind λg=>match g with
 | .exc y=>some y
 |_=>none
noncomputable def AQ(sc:SC):EV->Option (aD->DS)
 | .call f es ks _=>match ev f with
  | .name x _=>if(sc.glob x&&ks.isEmpty)=true then(Ut tb x).bind λy=>(zC T sc es []).map λfs c=>fy y (fs c)else none
  |_=>none
 |_=>none
noncomputable def Fq(sc:SC)(st:Stmt):Option (aD->DS):=match st with
 | .Assign ts v _=>match ts with
  | [t]=>US tb T sc v (ev t)
  |_=>none
 | .Expr e _=>if rj e=true then(T.e sc .no e).map λf c=>cU (f c)else none
 | .Return e _=>e.bind λe=>(T.e sc sc.ret e).map λf c=>aX (f c)
 | .If t b d _=>(T.t sc t).bind λk=>(T.ss sc b).bind λf=>(T.ss sc d).map λg c=>dw (k c) (f c) (g c)
 | .While t b d _=>if d.isEmpty=true then(T.t sc t).bind λk=>(T.ss sc b).map λf c=>eB (k c) (f c) sc.wh else none
 | .For tg it b d _=>if d.isEmpty=true then(TM tb T sc .no (ev tg) it (ev it)).bind λg=>(Ox sc (ev tg)).bind λbd=>(T.ss sc b).map λf c=>kN (g c) bd (f c)else none
 | .Raise e d _=>if d.isNone=true then e.bind λe=>AQ tb T sc (ev e)else none
 |_=>none
noncomputable def wj(sc:SC):List Stmt->Option (aD->DS)
 | []=>some λ_=>av
 |st::r=>(wj sc r).map λg c=>ao (((Fq tb T sc st).getD λ_=>Bx) c) (g c)
end
section
variable{G:Gd}{ah:Heap}{Fa:aP G ah}{dec:Addr}{M N:Nat}{c:aD}{tb:xY}{T:gY}{sc:SC}{cx:Cx}{o:kT}{x:Str}{scope:Scope}
noncomputable def I7(Fa:aP G ah)(M:Nat)(c:aD)(sc:SC)(st:Stmt)(f:aD->DS):Prop:=∀{N:Nat}{cx:Cx},sc.lv M<=N->cW G ah sc cx->oQ cx->S1 Fa N cx st (f c)
theorem sj(Y:cW G ah sc cx):∀{ns:List Str}{is:List Nat},wB sc ns=some is->Al (λx i=>cx.vis i=some x/\IM cx x) ns is
 | [],_,h=>by cases h;exact .nil
 |x::r,_,h=>bind_some h λi h1 h=>aM h λis h2 h=>h▸ .cons (Y.put h1) (sj Y h2)
theorem yM:∀{l:List PySem.Expr},l.all noStar=true->(l.any λ| .Starred .. =>true |_=>false)=false
 | [],_=>rfl
 |e::l,h=>by
  obtain⟨a,b⟩:=bA (List.all_cons.symm.trans h);rw[List.any_cons,yM b];clear b h;cases e<;>first |rfl |cases a
theorem JZ(h:Fi es vs (g8 cx.en.kindOf (ow es) es)=true)(hk:cx.en.scope.kind= .function):swappedStores [.Tuple es k tp] (.Tuple vs k2 p2) cx.en=pure (some (g8 cx.en.kindOf (ow es) es)):=by
 refine cps λPP kk=> ?_;obtain⟨h,h7⟩:=bA h;obtain⟨h,h6⟩:=bA h;obtain⟨h,h5⟩:=bA h;obtain⟨h,h4⟩:=bA h;obtain⟨h,h3⟩:=bA h;obtain⟨h1,h2⟩:=bA h;refine kk ?_;clear kk;have bk:(cx.en.blockKind != .function)=false:=by unfold Env.blockKind;rw[hk];rfl
 have e2:(vs.length !=es.length)=false:=by rw[bne,h2];rfl
 have neg:∀{α:Type}{p:Bool}{x y z:α},p=false->y=z->(if p=true then x else y)=z:=λh e=>by subst h;exact e
 unfold swappedStores;dsimp only;refine neg (by rw[h1,e2,bk];rfl) (neg (yM h3) (neg ?_ (neg (Bool.jW h6) (neg (Bool.jW h7) rfl))));show(bne (g8 cx.en.kindOf (ow es) es).length es.length||bne (g8 cx.en.kindOf (ow es) es).eraseDups.length (g8 cx.en.kindOf (ow es) es).length)=false;rw[bne,bne,h4,h5];rfl
theorem Fg(hv:ev v=w)(h:w.isTup=false):swappedStores [.Tuple es k tp] v cx.en=pure none:=by
 cases v<;>first |rfl |(subst hv;cases h)
theorem JO(Z:m9 Fa M c T)(h:RD T sc es v (.tup es k tp) (ev v)=some f):I7 Fa M c sc (.Assign [.Tuple es k tp] v pos) f:=λ{N cx} hN Y ok=>by
 have plain:∀{w:EV},ev v=w->w.isTup=false->((Ox sc (.tup es k tp)).bind λbd=>(T.e sc sc.Ju v).map λf c=>dN bd (f c))=some f->S1 Fa N cx (.Assign [.Tuple es k tp] v pos) (f c):=λhv hw h=>
  bind_some h λbd h1 h=>aM h λf h2 h=>h▸EA (Z.e h2 hN Y) (qc (tg:= .Tuple es k tp) Y ok h1) uX (Fg hv hw)
 cases hv:ev v<;>rw[hv]at h<;>first |exact plain hv rfl h |skip
 clear plain;cases fJ hv rfl;obtain⟨hq,h9⟩:=bP h;have kd:cx.en.kindOf=pB sc.names:=funext λx=>(Y.kind x).trans (lg _ x).symm;refine bind_some h9 λis h1 h=>aM h λf h2 h=>h▸Me ok (sj Y h1) (Z.e h2 hN Y) uX ?_;rw[<-kd]at hq⊢;exact JZ hq ok.kind
set_option tactic.hygienic true in
theorem LQ(L:rI Fa dec M c tb)(Z:m9 Fa M c T)(hx:sc.put x=some i)(h:UR tb T sc i x v (ev v)=some f):I7 Fa M c sc (.Assign [.Name x xp] v pos) f:=λ{N cx} hN Y ok=>by
 obtain⟨hy,hk⟩:=Y.put hx;have plain:(if rj v=true then(T.e sc (sc.at x) v).map λf c=>ay i (f c)else none)=some f->S1 Fa N cx (.Assign [.Name x xp] v pos) (f c):=λh=>by
  obtain⟨hq,h⟩:=bP h;exact aM h λf h1 h=>h▸qF ok hy hk (Z.e h1 hN Y) (l6 hq)
 cases hv:ev v<;>rw[hv]at h<;>first |exact plain h |skip
 rename_i elt gs s p;clear plain;cases fJ hv rfl;refine aM h λf h1 h=>h▸ ?_;have z:=yU (pos:=p) L Z h1 hN Y;cases hb:(cx.en.blockKind== .function&&cx.en.kindOf x==some .local&&xp.line==p.line&& !(s.names.any λ(n,k)=>n==x&&(k== .local||k== .cell)))with
 |true=>exact z.asg hy hk (yo.trans (congrArg pure hb))
 |false=>exact qF ok hy hk z.se (yo.trans (congrArg pure hb))
theorem LR(L:rI Fa dec M c tb)(Z:m9 Fa M c T)(h:US tb T sc v (ev t)=some f):I7 Fa M c sc (.Assign [t] v pos) f:=λ{N cx} hN Y ok=>by
 cases hv:ev t<;>rw[hv]at h<;>first |(cases h;done) |skip
 ·cases fJ hv rfl;exact bind_some h λi h1 h=>LQ L Z h1 h hN Y ok
 ·cases fJ hv rfl;exact JO Z h hN Y ok
 ·cases fJ hv rfl;exact bind_some h λf h1 h=>bind_some h λg h2 h=>aM h λe h3 h=>h▸QG (Z.e h1 hN Y) (Z.e h2 hN Y) (Z.e h3 hN Y) DH
theorem vQ.up(h:vQ Fa M C)(hM:M<=N):vQ Fa N C:=λA s F ρ objs X Q E u R=>h A s F ρ objs X Q E u (R.less hM)
set_option tactic.hygienic true in
theorem DQ(L:rI Fa dec M c tb)(Z:m9 Fa M c T)(h:AQ tb T sc (ev e)=some f):I7 Fa M c sc (.Raise (some e) none pos) f:=λ{N cx} hN Y ok=>by
 cases hv:ev e<;>rw[hv]at h<;>first |(cases h;done) |skip
 rename_i fn es ks p;cases fJ hv rfl;unfold AQ at h;dsimp only at h;cases hf:ev fn<;>rw[hf]at h<;>first |(cases h;done) |skip
 cases fJ hf rfl;obtain⟨hq,h9⟩:=bP h;obtain⟨hg,hk⟩:=bA hq;cases nZ.mp hk;refine bind_some h9 λy h1 h=>aM h λfs h2 h=>h▸bind_some h1 λg h3 h4=> ?_;have H:=L.glob _ (gF h3);clear h3;cases g<;>first |(cases h4;done) |skip
 clear h1 h;cases h4;exact H.rec λdP fI O hm hk hm2=>I0 O (hm.up (CA hN)) hk (kP Y.ok (Y.glob hg).1 (Y.glob hg).2 hm2) ((dW Z h2).1 hN Y) (dW Z h2).2 jk
theorem Fp(L:rI Fa dec M c tb)(Z:m9 Fa M c T){st:Stmt}(h:Fq tb T sc st=some f):I7 Fa M c sc st f:=λ{N cx} hN Y ok=>by
 cases st with
 |Assign ts v p=>
  rcases ts with _ |⟨t,_ |_⟩<;>first |(cases h;done) |exact LR L Z h hN Y ok
 |Expr e p=>
  obtain⟨hq,h9⟩:=bP h;exact aM h9 λf h1 h=>h▸Mf (Z.e h1 hN Y) (by unfold interactive;rw[ok.kind];rfl) (l6 hq)
 |Return e p=>cases e with
  |none=>cases h
  |some e=>exact aM h λf h1 h=>h▸IZ (Z.e h1 hN Y)
 |If t b d p=>exact bind_some h λk h1 h=>bind_some h λf h2 h=>aM h λg h3 h=>h▸Ve (Z.t h1 hN Y) (Z.ss h2 hN Y) (Z.ss h3 hN Y)
 |While t b d p=>
  obtain⟨hq,h9⟩:=bP h;cases nZ.mp hq;exact bind_some h9 λk h1 h=>aM h λf h2 h=>h▸IY _ (Z.t h1 hN Y) (Z.ss h2 hN Y)
 |For tg it b d p=>
  obtain⟨hq,h9⟩:=bP h;cases nZ.mp hq;exact bind_some h9 λg h1 h=>bind_some h λbd h2 h=>aM h λf h3 h=>h▸(wX L Z h1 hN Y).rec λhg hs=>QH ok hg (qc Y ok h2) (Z.ss h3 hN Y) hs
 |Raise e d p=>
  obtain⟨hq,h9⟩:=bP h;cases EO.mp hq;clear h;cases e with
  |none=>cases h9
  |some e=>exact DQ L Z h9 hN Y ok
 |_=>cases h
theorem u0(L:rI Fa dec M c tb)(Z:m9 Fa M c T)(hN:sc.lv M<=N)(Y:cW G ah sc cx)(ok:oQ cx):∀{ss:List Stmt}{f:aD->DS},wj tb T sc ss=some f->SS Fa N cx ss (f c)
 | [],_,h=>by cases h;exact QE
 |st::r,_,h=>aM h λg h1 h=>h▸L_ (by
   cases hs:Fq tb T sc st with
   |some f=>exact Fp L Z hs hN Y ok
   |none=>exact λA s loc objs F ρ X Q E R X' S L P=>P.elim) (u0 L Z hN Y ok h1)
end
noncomputable def Kz:gY:=⟨λ_ _ _=>none,λ_ _=>none,λ_ _=>none⟩
noncomputable def DZ(tb:xY)(T:gY):gY:=⟨My tb T,stepT T,λsc ss=>if sc.lam=true then none else wj tb T sc ss⟩
noncomputable def AF(tb:xY)(n:Nat):gY:=Nat.rec Kz (λ_ T=>DZ tb T) n
structure FE where
 ps:List Str
 body:List Stmt
 scope:Scope
 fW:List D
 keep:Bool
 tab:Option Nat
 MF:List (Str×kT)
 ret:kT
 Ju:kT
 wh:Nat
noncomputable def isIn(l:List Str)(x:Str):Bool:=l.any λy=>kR y x
noncomputable def FE.vis(f:FE):JE:=(f.ps++f.scope.names.filterMap λy=>if(match y.2 with | .local=> !isIn f.ps y.1 | .cell=> !isIn f.ps y.1 |_=>false)=true then some y.1 else none).map some
noncomputable def FE.sc(f:FE):SC:={names:=f.scope.names,vis:=f.vis,top:=true,tab:=f.tab,lam:=false,MF:=f.MF,ret:=f.ret,Ju:=f.Ju,wh:=f.wh}
noncomputable def NF(scope:Scope)(x:Str):Bool:=((cellsFrom 0 scope.names []).lookup x).isSome
noncomputable def FE.Z0(f:FE):Bool:=vF f.scope.kind&& !f.scope.isGenerator&& !f.scope.isCoroutine&&vf ((cellsFrom 0 f.scope.names []).map (λZ=>Z.1))&&vf f.ps
 &&(f.ps.all λx=>xW f.scope.names x .local||(xW f.scope.names x .cell&&NF f.scope x))&&(f.scope.names.all λy=>match y.2 with | .cell=>NF f.scope y.1 |_=>true)&&oX f.vis
noncomputable def FE.comp(tb:xY)(f:FE):Option (aD->List V->az->aR V):=if f.Z0=true then((AF tb 40).ss f.sc f.body).map λg c=>oz (bI f.ps.length (f.vis.length+12) f.fW (g c) f.keep)else none
section
variable{G:Gd}{ah:Heap}{Fa:aP G ah}{dec:Addr}{M N:Nat}{c:aD}{tb:xY}{T:gY}{sc:SC}{cx:Cx}{o:kT}{x:Str}{scope:Scope}
theorem mR(L:rI Fa dec M c tb):∀n,m9 Fa M c (AF tb n)
 | 0=>⟨λh=>aK h,λh=>aK h,λh=>aK h⟩
 |n+1=>⟨λh=>Ft L (mR L n) h,λh=>Fj (mR L n) h,λ{sc ss f} h N cx hN Y=>by
   have h:(if sc.lam=true then none else wj tb (AF tb n) sc ss)=some f:=h;cases hl:sc.lam with
   |true=>rw[hl]at h;cases h
   |false=>rw[hl]at h;exact u0 L (mR L n) hN Y (Y.WS hl) h⟩
inductive QZ(Fa:aP G ah)(f:FE)(a:Addr):Prop
 |mk (fx:FuncData) (qual:Str) (cdv:Value) (fT:List Value) (Z:lE G ah a fx qual f.scope f.body cdv f.ps f.fW fT) (tab:∀j,f.tab=some j->(∃k,cdv= .ref k/\CodeHd ah k (G.nt j))/\(qual++".<locals>.")++"<lambda>"=G.qd j/\∀bm ob,ob.cls= .type "module"->ah.get? bm=some ob->bm≠G.nt j)
theorem FE.XE{f:FE}(h:f.Z0=true):Vu f.scope f.ps (iS f.vis):=by
 obtain⟨h,h8⟩:=bA h;obtain⟨h,h7⟩:=bA h;obtain⟨h,h6⟩:=bA h;obtain⟨h,h5⟩:=bA h;obtain⟨h,h4⟩:=bA h;obtain⟨h,h3⟩:=bA h;obtain⟨h1,h2⟩:=bA h;exact⟨kK h1,Bool.jW h2,Bool.jW h3,iJ h4,iJ h5,λx hx=>(Bool.or_eq_true_iff.mp (cZ.mp h6 x hx)).elim (λh=> .inl (qv h)) λh=> .inr ⟨qv (bA h).1,(bA h).2⟩,
  λi x hi hx=>by
   obtain⟨y,e1,e2⟩:=bS hx;obtain⟨z,e3,rfl⟩:=mS (gB.symm.trans e1);clear hx;cases e2;exact(yc hi).symm.trans e3,
  λx hx=>cZ.mp h7 _ (bX hx),λi j x a b=>p_ h8 a b,λi x a=>jH h8 a⟩
theorem FE.ok(L:rI Fa dec M c tb)(h:f.comp tb=some g)(H:QZ Fa f a):kQ Fa (M+4) (.ref a) (g c):=by
 obtain⟨hc,h⟩:=bP h;refine aM h λd h1 h=>h▸kQ.frame ?_;have ok:=FE.XE hc;refine H.rec λfx qual cdv fT Z tab=> ?_;refine cps λPP kk=> ?_;obtain⟨fo,hfo,hd⟩:=Z.MT;have hb:=Z.binds;obtain⟨name,params,dV,kV,doc,pm,an,ct,rfl⟩:=Z.is;refine kk ?_;clear kk;refine QF (N:=M+3) hfo hd Z.code Fa.vj ok Z.dv hb λL' Ku=>(mR L 40).ss h1 (Nat.le_refl _) ⟨Ku.toCxOk,λU=>Ku,λU=>rfl,λU=>rfl,λU x k e=> .tail _ (cX.mpr ⟨_,bX e,rfl⟩),λj hj=>⟨(tab j hj).1,(tab j hj).2.1,(tab j hj).2.2⟩⟩
end
noncomputable def cy(i:Nat):Stmt:=(PR.main.body[i]?).getD default
noncomputable def mY(i j:Nat):Stmt:=match cy i with
 | .ClassDef _ _ _ body _ _ _ _ _ _ _=>(body[j]?).getD default
 |_=>default
noncomputable def tK(st:Stmt):Str×Arguments×List Stmt×Scope:=match st with
 | .FunctionDef n args body _ _ _ scope _ _ _=>(n,args,body,scope)
 |_=>default
noncomputable def bQ(st:Stmt)(fW:List D)(keep:Bool)(tab:Option Nat)(MF:List (Str×kT))(ret Ju:kT)(wh:Nat):FE:=⟨(tK st).2.1.args.map (λZ=>Z.arg),(tK st).2.2.1,(tK st).2.2.2,fW,keep,tab,MF,ret,Ju,wh⟩
noncomputable def gp(x:String)(g:GK):Str×GK:=(x,g)
noncomputable def bp(x:String)(g:BK):Str×BK:=(x,g)
noncomputable def mp(x:String)(g:Nat):Str×Nat:=(x,g)
noncomputable def op(x:String)(g:kT):Str×kT:=(x,g)
noncomputable def Ub:List (Str×GK):=[
 gp "kind_of" (.fn 0),
 gp "told_plain" (.fn 1),
 gp "told" (.fn 2),
 gp "parts_of" (.fn 3),
 gp "references_in" (.fn 4),
 gp "is_there" (.fn 5),
 gp "plain_trailer" (.fn 6),
 gp "walk" (.fn 7),
 gp "reached" (.fn 8),
 gp "unreached" (.fn 9),
 gp "first_sine" (.fn 10),
 gp "added_numbers" (.fn 11),
 gp "low_first" (.fn 12),
 gp "padded" (.fn 13),
 gp "word_in" (.fn 14),
 gp "words_in" (.fn 15),
 gp "mixed_bits" (.fn 16),
 gp "word_at" (.fn 17),
 gp "rotated" (.fn 18),
 gp "stepped" (.fn 19),
 gp "block_taken" (.fn 20),
 gp "digest" (.fn 21),
 gp "key_object" (.fn 22),
 gp "key_of" (.fn 23),
 gp "node_of" (.fn 24),
 gp "row_of" (.fn 25),
 gp "node_pairs" (.fn 26),
 gp "node_limits" (.fn 27),
 gp "longer_way" (.fn 28),
 gp "tree_pairs" (.fn 29),
 gp "first_at_least" (.fn 30),
 gp "kid_for" (.fn 31),
 gp "tree_find" (.fn 32),
 gp "even_parts" (.fn 33),
 gp "leaf_node" (.fn 34),
 gp "inner_node" (.fn 35),
 gp "as_root" (.fn 36),
 gp "tree_built" (.fn 37),
 gp "names_of" (.fn 38),
 gp "file_pairs" (.fn 39),
 gp "attached" (.fn 40),
 gp "specification" (.fn 41),
 gp "stream_of" (.fn 42),
 gp "size_word" (.fn 43),
 gp "extract_by" (.fn 44),
 gp "last_reference" (.fn 45),
 gp "with_key" (.fn 46),
 gp "home_of" (.fn 47),
 gp "lay_pairs" (.fn 48),
 gp "lay_and_tidy" (.fn 49),
 gp "embedded" (.fn 50),
 gp "file_specification" (.fn 51),
 gp "attach_stream" (.fn 52),
 gp "detach" (.fn 53),
 gp "_law_draw" (.fn 54),
 gp "_law_pen" (.fn 55),
 gp "_law_octets" (.fn 56),
 gp "_law_spec" (.fn 58),
 gp "_law_tree" (.fn 59),
 gp "_law_document" (.fn 60),
 gp "_law_rest" (.fn 61),
 gp "_law_right" (.fn 62),
 gp "law" (.fn 63),
 gp "told_objects" (.fn 2)]
noncomputable def Nm:List (Str×GK):=[
 gp "_law_plain" (.nH (.fn 0)),
 gp "MOST_HOPS" (.nH (.int 30)),
 gp "PLACES_OF_FILES" (.nH (.tup [.str "Size", .str "Prev", .str "XRefStm"])),
 gp "WORD_md5" (.nH (.int 4294967296)),
 gp "SCALE" (.nH (.int (10 ^ 60))),
 gp "TURNS" (.nH (.tup [.tup [.int 7, .int 12, .int 17, .int 22], .tup [.int 5, .int 9, .int 14, .int 20], .tup [.int 4, .int 11, .int 16, .int 23], .tup [.int 6, .int 10, .int 15, .int 21]])),
 gp "BEGIN" (.nH (.tup [.int 1732584193, .int 4023233417, .int 2562383102, .int 271733878])),
 gp "MOST_DEEP" (.nH (.int 40)),
 gp "MOST_PLACES" (.nH (.int 16)),
 gp "WORD_attachments" (.nH (.str "Names")),
 gp "BRANCH" (.nH (.str "EmbeddedFiles")),
 gp "WIDTH" (.nH (.int 32)),
 gp "MOST_STEPS" (.nH (.int 30)),
 gp "_law_names" (.nH (.tup [.bytes [97], .bytes [98], .bytes [97,98], .bytes [], .bytes [255]])),
 gp "Name" (.cls .name 1 []),
 gp "String" (.cls .string 2 [.bool false]),
 gp "Stream" (.cls .stream 2 []),
 gp "Reference" (.cls .reference 2 []),
 gp "Shelf" (.bV),
 gp "TreeFault" (.exc .tree),
 gp "DraftFault" (.exc .i_),
 gp "_law_refused" (.tried),
 gp "Decimal" (.dec)]
noncomputable def Lh:List (Str×GK):=Ub++Nm
noncomputable def Et:List (Str×BK):=[bp "len" .len,bp "abs" .abs,bp "tuple" .tuple,bp "list" .list,bp "bytes" .bytes,bp "sum" .sum,bp "reversed" .reversed,bp "sorted" .sorted,bp "dict" .dict,bp "isinstance" .PF,bp "range" .range,bp "zip" .zip,bp "bool" .bool,bp "int" .int]
noncomputable def Po:List (Str×Nat):=[mp "fetch" 64,mp "get" 65,mp "put" 66,mp "add" 67,mp "drop" 68,mp "numbers" 69,mp "root" 70,mp "told" 71]
noncomputable def tb:xY:=⟨Lh,Et,Po,72,57⟩
noncomputable def Am:List FE:=[
 bQ (cy 16) [] false none [] .no .no 0,
 bQ (cy 17) [] false none [] .no .no 0,
 bQ (cy 18) [] false none [] .no .no 0,
 bQ (cy 20) [] false none [] .no .no 0,
 bQ (cy 21) [] false none [op "found" (.lst),op "seen" (.emp (.bO [])),op "line" (.lst)] .no .no 400,
 bQ (cy 26) [] false none [] .no .no 0,
 bQ (cy 27) [] false none [] .no .no 0,
 bQ (cy 28) [] false none [op "found" (.lst),op "seen" (.emp (.bO []))] .no .no 100,
 bQ (cy 29) [] false none [] .no .no 0,
 bQ (cy 30) [] false none [op "found" (.key (.dict .ki []))] .no .no 0,
 bQ (cy 36) [] false none [] .no .no 0,
 bQ (cy 37) [] false none [op "found" (.lst)] .no .no 0,
 bQ (cy 38) [] false none [] .no .no 0,
 bQ (cy 39) [] false none [] .no .no 0,
 bQ (cy 40) [] false none [] .no .no 0,
 bQ (cy 41) [] false none [] .no .no 0,
 bQ (cy 42) [] false none [] .no .no 0,
 bQ (cy 43) [] false none [] .no .no 0,
 bQ (cy 44) [] false none [] .no .no 0,
 bQ (cy 45) [] false none [] .no .no 0,
 bQ (cy 46) [] false none [] .no .no 0,
 bQ (cy 47) [] false none [] .no .no 0,
 bQ (cy 51) [] false none [] .no .no 0,
 bQ (cy 52) [] false none [] .no .no 0,
 bQ (cy 53) [] false none [] .no .no 0,
 bQ (cy 54) [] false none [] .no .no 0,
 bQ (cy 55) [] false none [] .no .no 0,
 bQ (cy 56) [] false none [] .no .no 0,
 bQ (cy 57) [] false none [] .no .no 0,
 bQ (cy 58) [] false none [op "found" (.lst),op "times" (.emp (.bO [])),op "line" (.lst)] .no .no 100,
 bQ (cy 59) [] false none [] .no .no 10,
 bQ (cy 60) [] false none [] .no .no 10,
 bQ (cy 61) [.none] false none [] .no .no 0,
 bQ (cy 62) [] false none [op "rows" (.lst)] .no .no 0,
 bQ (cy 63) [] false none [op "row" (.lst)] .no .no 0,
 bQ (cy 64) [] false none [] .no .no 0,
 bQ (cy 65) [] false none [] .no .no 0,
 bQ (cy 66) [] false (some 0) [] .no .no 3,
 bQ (cy 72) [] false none [] .no .no 0,
 bQ (cy 73) [] false none [] .no .no 0,
 bQ (cy 74) [] false none [] .no .no 0,
 bQ (cy 75) [] false none [] .no .no 0,
 bQ (cy 76) [] false none [] .no .no 0,
 bQ (cy 77) [] false none [] .no .no 0,
 bQ (cy 78) [] false none [] .no .no 0,
 bQ (cy 79) [] false none [] .no .no 0,
 bQ (cy 80) [] false none [op "found" (.emp (.dict .ks []))] .no .no 0,
 bQ (cy 81) [] false none [] .no .no 0,
 bQ (cy 82) [] false none [op "single" (.key (.dict .kb []))] .no .no 0,
 bQ (cy 83) [] false none [] .no .no 0,
 bQ (cy 84) [] false none [] .no .no 0,
 bQ (cy 85) [] false none [] .no .no 0,
 bQ (cy 86) [] false none [] .no .no 0,
 bQ (cy 87) [] false none [] .no .no 0,
 bQ (cy 90) [] false none [] .no .no 0,
 bQ (cy 91) [] true none [] (.lst) .no 0,
 bQ (cy 92) [] false none [op "found" (.lst)] .no .no 0,
 bQ (cy 93) [] false none [] .no .no 0,
 bQ (cy 94) [] false none [] .no .no 0,
 bQ (cy 95) [] false none [] .no .no 0,
 bQ (cy 96) [] true none [op "names" (.emp (.dict .ks [])),op "head" (.emp (.dict .ks []))] (.pair) (.pair) 0,
 bQ (cy 97) [] false none [] .no .no 0,
 bQ (cy 98) [] false none [] .no .no 0,
 bQ (cy 100) [] false (some 1) [op "world" (.emp (.dict .kb []))] .no .no 0,
 bQ (mY 22 1) [] false none [] .no .no 0,
 bQ (mY 22 2) [] false none [] .no .no 0,
 bQ (mY 23 0) [] false none [] .no .no 0,
 bQ (mY 23 1) [] false none [] .no .no 100,
 bQ (mY 23 2) [] false none [] .no .no 0,
 bQ (mY 23 3) [] false none [] .no .no 0,
 bQ (mY 23 4) [] false none [] .no .no 0,
 bQ (mY 23 5) [] false none [] .no .no 0,
 bQ (mY 15 1) [] false none [] .no .no 0]
noncomputable def cg(id:Nat):Option (aD->List V->az->aR V):=(Am[id]?).bind (FE.comp tb)
noncomputable def run(n:Nat):aD:=Nat.rec (λ_ _ _=> .stuck) (λ_ r id args o=>match cg id with
 |some g=>g r args o
 |none=> .stuck) n
section
variable{G:Gd}{ah:Heap}{Fa:aP G ah}{dec:Addr}{M N:Nat}{c:aD}
theorem kQ.le(h:kQ Fa N v g)(hle:∀args o,g' args o= .stuck\/g' args o=g args o):kQ Fa N v g':=λA s objs F ρ X Q E args us R X' S W P=>by
 rcases hle args objs with e |e
 ·rw[e]at P;exact P.elim
 ·rw[e]at P;exact h A s objs F ρ X Q E args us R X' S W P
theorem kQ.none:kQ Fa N v (λZ Z=> .stuck):=λZ Z Z Z Z Z Z Z Z Z Z Z Z Z P=>P.elim
noncomputable def GK.isFn:GK->Bool
 | .fn _=>true
 |_=>false
structure zU(Fa:aP G ah)(dec:Addr)(fa:Nat->Addr):Prop where
 cls:jy Fa dec
 MT:∀id f,Am[id]? =some f->QZ Fa f (fa id)
 keep:∀id f,Am[id]? =some f->keepIn Fa.K (.ref (fa id))=true
 ZH:∀x id,(x,GK.fn id) ∈ Lh->Fa.mg x=some (.ref (fa id))/\∃f,Am[id]? =some f
 xV:∀p ∈ Lh,p.2.isFn=false->Jj Fa dec 4 (λ_ _ _=> .stuck) p.1 p.2
 blt:∀p ∈ Et,Fa.mg p.1=none/\p.1≠"__name__"/\bootBuiltins p.1=some (Es p.2)
 mY:∀p ∈ Po,t8 Fa.K G.g_ p.1 (fa p.2)/\p.1 ∉ [("table":Str),"trailer"]/\∃f,Am[p.2]? =some f
 pair:t8 Fa.K (G.pO .reference) "pair" (fa tb.pair)/\("pair":Str) ∉ bJ .reference/\∃f,Am[tb.pair]? =some f
 plain:∀k,G.dH k=fa tb.plain/\∃f,Am[tb.plain]? =some f
noncomputable def m_(Fa:aP G ah)(fa:Nat->Addr)(M:Nat)(c:aD):Prop:=∀id f,Am[id]? =some f->kQ Fa M (.ref (fa id)) (c id)
variable{fa:Nat->Addr}
theorem FnAt.up(h:FnAt Fa M x g)(hM:M<=N):FnAt Fa N x g:=h.rec λv a b d=>⟨v,a,b,d.up hM⟩
theorem Pu(T:zU Fa dec fa)(hM:4<=M)(h:m_ Fa fa M c):rI Fa dec M c tb where
 cls:=T.cls
 glob p hp:=by
  cases hq:p.2.isFn with
  |true=>
   obtain⟨x,g⟩:=p;cases g<;>first |(cases hq;done) |skip
   obtain⟨h1,f,h2⟩:=T.ZH _ _ hp;exact⟨_,h1,qS (T.keep _ f h2),h _ f h2⟩
  |false=>
   have:=T.xV p hp hq;obtain⟨x,g⟩:=p;clear hp;cases g with
   |fn=>cases hq
   |cls=>exact⟨this.1.up hM,this.2⟩
   |bV=>exact FnAt.up this hM
   |exc=>exact Jq.rec (λdP fI O hm hk hg=>⟨dP,fI,O,hm.up hM,hk,hg⟩) this
   |_=>exact this
 blt:=T.blt
 mY p hp:=let⟨h1,h2,f,h3⟩:=T.mY p hp;⟨_,h1,h2,qS (T.keep _ f h3),h _ f h3⟩
 pair:=let⟨h1,h2,f,h3⟩:=T.pair;⟨_,h1,h2,qS (T.keep _ f h3),h _ f h3⟩
 plain k:=by
  obtain⟨h1,f,h3⟩:=T.plain k;rw[h1];exact⟨qS (T.keep _ f h3),h _ f h3⟩
noncomputable def Gw(nat:Nat->Option (List V->az->aR V))(r:aD):aD:=λid args o=>match nat id with
 |some g=>g args o
 |none=>match cg id with
  |some g=>g r args o
  |none=> .stuck
theorem KC(T:zU Fa dec fa)(hM:4<=M)(h:m_ Fa fa M c)(hn:∀id g,nat id=some g->kQ Fa M (.ref (fa id)) g):m_ Fa fa (M+4) (Gw nat c):=λid f hf=>by
 unfold Gw;cases hq:nat id with
 |some g=>exact(hn id g hq).up (fN _ _)
 |none=>
  cases hc:cg id with
  |none=>exact kQ.none
  |some g=>
   refine FE.ok (Pu T hM h) ?_ (T.MT id f hf);unfold cg at hc;rw[hf]at hc;exact hc
noncomputable def WI(base:aD)(nat:Nat->Option (List V->az->aR V))(n:Nat):aD:=Nat.rec base (λ_ r=>Gw nat r) n
theorem Ce(T:zU Fa dec fa)(hM:4<=M)(h:m_ Fa fa M base)(hn:∀id g,nat id=some g->kQ Fa M (.ref (fa id)) g):∀n,m_ Fa fa (M+4 * n) (WI base nat n)
 | 0=>h
 |n+1=>KC T (cS hM (fN _ _)) (Ce T hM h hn n) λid g e=>(hn id g e).up (fN _ _)
theorem ON(T:zU Fa dec fa)(n:Nat):m_ Fa fa (4+4 * n) (run n):=Ce (M:=4) (base:=λZ Z Z=> .stuck) (nat:=λZ=>none) T (Nat.le_refl _) (λZ Z Z=>kQ.none) (λZ Z e=>aK e) n
end
noncomputable def AO(ok:Nat->Option Value->Thread->Bool)(st:(Code->Sem Fin)->Program->World->SharedT->Thread->Option (SharedT×Thread))(den:(String->Option Builtin)->Code->Sem Fin)(tb:String->Option Builtin)(p:Program)(w:World)(n₀:Nat)(ann:Option Value):Nat->SharedT->Thread->Option SharedT
 | 0,_,_=>none
 |n+1,s,t=>match through t with
  |true=>some s
  |false=>match ok n₀ ann t with
   |false=>none
   |true=>match st (den tb) p w s t with
    |some (s',t')=>AO ok st den tb p w n₀ ann n s' t'
    |none=>none
theorem uV{tb:String->Option Builtin}:∀{n:Nat}{s s':SharedT}{t:Thread},AO stepOk PySem.W.stepT denote tb p w n₀ ann n s t=some s'->topRun tb p w n₀ ann n s.abs t=some s'.abs
 | 0,_,_,_,h=>by cases h
 |n+1,s,s',t,h=>by
  have h:(match through t with |true=>some s |false=>match stepOk n₀ ann t with |false=>none |true=>match PySem.W.stepT (denote tb) p w s t with |some (s₁,t₁)=>AO stepOk PySem.W.stepT denote tb p w n₀ ann n s₁ t₁ |none=>none)=some s':=h;unfold topRun;cases ht:through t with
  |true=>rw[ht]at h;cases h;rfl
  |false=>
   rw[ht]at h;cases hk:stepOk n₀ ann t with
   |false=>rw[hk]at h;cases h
   |true=>
    rw[hk]at h;cases hs:PySem.W.stepT (denote tb) p w s t with
    |none=>rw[hs]at h;cases h
    |some r=>rw[hs]at h;rw[stepT_spec hs];exact uV h
open PySem.W.Fast in
theorem FI:AO stepOk PySem.W.stepT denote treeTable=AO tw6613529449190102663 tw10156331382660048174 tw11892475500146522536 tw14364793385576792824:=by
 rw[te6613529449190102663,te10156331382660048174,te11892475500146522536,te14364793385576792824]
noncomputable def bt:List Obj->Nat->BT->BT
 | [],_,t=>t
 |o::r,n,t=>bt r (n+1) (t.ins n o)
noncomputable def UL:List Obj->Nat->BT->Bool
 | [],_,_=>true
 |o::r,n,t=>((t.ins n o).get n).isSome&&UL r (n+1) (t.ins n o)
theorem IG:∀{l:List Obj}{n:Nat}{t:BT},UL l n t=true->absHeap (bt l n t) (n+l.length) life=⟨(absHeap t n life).objs++l.toArray,life⟩
 | [],n,t,_=>by show absHeap t n life=_;rw[Array.append_empty];rfl
 |o::r,n,t,h=>by
  obtain⟨h1,h2⟩:=bA h;have:=IG (life:=life) h2;rw[absHeap_ins h1]at this;rw[jS,ng r.length 1, <-oS];refine this.trans ?_;show Heap.mk ((absHeap t n life).objs.push o++r.toArray) life=_;exact congrArg (λZ=>Heap.mk Z life) (by simp)
noncomputable def s0(w:World)(os:OsState):SharedT:=⟨bt (boot_heap w.params).objs.toList 0 .nil,(boot_heap w.params).objs.size,(boot_heap w.params).life, #[],boot_drawn,boot_toks,os⟩
theorem OM(w:World)(os:OsState):(s0 w os).abs=⟨boot_heap w.params, #[],boot_drawn,boot_toks,os⟩:=by
 have:=IG (life:=(boot_heap w.params).life) (l:=(boot_heap w.params).objs.toList) (n:=0) (t:= .nil) (by kernel_rfl);rw[jQ,Array.length_toList]at this;show Shared.mk _ _ _ _ _=_;rw[show(s0 w os).tree=bt (boot_heap w.params).objs.toList 0 .nil from rfl,show(s0 w os).n=(boot_heap w.params).objs.size from rfl,show(s0 w os).life=(boot_heap w.params).life from rfl,this];refine congrArg (λh=>Shared.mk h #[] boot_drawn boot_toks os) ?_;exact congrArg (Heap.mk · (boot_heap w.params).life) (by simp[absHeap,BT.list];rfl)
noncomputable def PN(w:World)(s:Shared):Bool:=staticsOk (importedModules PR.main.body) (boot_heap w.params) s.heap&&namesBound PR s.heap&&gensDone s&&laidKept (boot_heap w.params) s.heap
theorem KU{q:Program}(hN:Nat.ble 600 N=true)
  (h:∀w os,(AO stepOk PySem.W.stepT denote treeTable PR w (boot_heap w.params).objs.size ((boot_heap w.params).nsMap mainGlobals "__annotations__") N (s0 w os) (topStub PR)).map (λs=>(PN w s.abs,openSeen q loose (importedModules PR.main.body) Xt true s.abs,Yf s.abs))=some (true,openGood q loose,Ya w)):LeftO PR q loose Xt Yf Ya N:=λw=>by
 refine cps λPP kk=> ?_;obtain⟨s,hs,e⟩:=mS (boot_open (p:=PR) rfl hN (λs=>rfl) w);obtain⟨heap,gens,drawn,toks,os⟩:=s;simp only[Prod.mk.injEq]at e;obtain⟨rfl,rfl,rfl,rfl⟩:=e;refine kk ?_;clear kk;unfold openEnds;rw[hs];obtain⟨sT,h1,h2⟩:=mS (h w os);have h3:=uV h1;rw[OM]at h3;simp only[Prod.mk.injEq]at h2;obtain⟨g,h2⟩:=h2;show Option.map _ (topFrom treeTable PR w N _)=_;have hns:(boot_heap w.params).isNs mainGlobals=true:=by kernel_rfl
 unfold topFrom;rw[show((Shared.mk (boot_heap w.params) (Array.mk []) boot_drawn boot_toks os).heap.isNs mainGlobals&&(Shared.mk (boot_heap w.params) (Array.mk []) boot_drawn boot_toks os).gens.size==0)=true from by rw[show(Shared.mk (boot_heap w.params) (Array.mk []) boot_drawn boot_toks os).heap=boot_heap w.params from rfl,hns];rfl];dsimp only;rw[h3];show Option.map _ (match PN w sT.abs with |true=>some sT.abs |false=>none)=_;rw[g];exact congrArg some (Prod.ext h2.1 h2.2)
noncomputable def fR(a:Nat)(st:Stmt)(q:Str)(m:Nat)(dv:Value):Nat×Stmt×Str×Nat×Value:=(a,st,q,m,dv)
noncomputable def Zg:Nat->Value
 | 0=> .str "__main__" 164
 | 1=> .str "paperhold.errors" 194
 | 2=> .str "paperhold.decimals" 284
 | 3=> .str "paperhold.objects" 415
 | 4=> .str "paperhold.gather" 703
 | 5=> .str "paperhold.md5" 743
 | 6=> .str "paperhold.trees" 876
 | 7=> .str "paperhold.attachments" 1022
 | 8=> .str "law_qz0084_01" 1168
 |_=> .none
noncomputable def iN:List (Nat×Stmt×Str×Nat×Value):=[
 fR 296 (cy 16) "kind_of" 3 (.none),
 fR 303 (cy 17) "told_plain" 3 (.none),
 fR 308 (cy 18) "told" 3 (.none),
 fR 313 (cy 20) "parts_of" 3 (.none),
 fR 320 (cy 21) "references_in" 3 (.none),
 fR 416 (cy 26) "is_there" 4 (.none),
 fR 421 (cy 27) "plain_trailer" 4 (.none),
 fR 426 (cy 28) "walk" 4 (.none),
 fR 431 (cy 29) "reached" 4 (.none),
 fR 436 (cy 30) "unreached" 4 (.none),
 fR 449 (cy 36) "first_sine" 5 (.none),
 fR 456 (cy 37) "added_numbers" 5 (.none),
 fR 461 (cy 38) "low_first" 5 (.none),
 fR 468 (cy 39) "padded" 5 (.none),
 fR 475 (cy 40) "word_in" 5 (.none),
 fR 480 (cy 41) "words_in" 5 (.none),
 fR 487 (cy 42) "mixed_bits" 5 (.none),
 fR 494 (cy 43) "word_at" 5 (.none),
 fR 501 (cy 44) "rotated" 5 (.none),
 fR 508 (cy 45) "stepped" 5 (.none),
 fR 513 (cy 46) "block_taken" 5 (.none),
 fR 518 (cy 47) "digest" 5 (.none),
 fR 525 (cy 51) "key_object" 6 (.none),
 fR 532 (cy 52) "key_of" 6 (.none),
 fR 539 (cy 53) "node_of" 6 (.none),
 fR 546 (cy 54) "row_of" 6 (.none),
 fR 551 (cy 55) "node_pairs" 6 (.none),
 fR 558 (cy 56) "node_limits" 6 (.none),
 fR 565 (cy 57) "longer_way" 6 (.none),
 fR 570 (cy 58) "tree_pairs" 6 (.none),
 fR 577 (cy 59) "first_at_least" 6 (.none),
 fR 584 (cy 60) "kid_for" 6 (.none),
 fR 590 (cy 61) "tree_find" 6 (.ref 585),
 fR 597 (cy 62) "even_parts" 6 (.none),
 fR 604 (cy 63) "leaf_node" 6 (.none),
 fR 611 (cy 64) "inner_node" 6 (.none),
 fR 616 (cy 65) "as_root" 6 (.none),
 fR 621 (cy 66) "tree_built" 6 (.none),
 fR 628 (cy 72) "names_of" 7 (.none),
 fR 635 (cy 73) "file_pairs" 7 (.none),
 fR 640 (cy 74) "attached" 7 (.none),
 fR 647 (cy 75) "specification" 7 (.none),
 fR 654 (cy 76) "stream_of" 7 (.none),
 fR 661 (cy 77) "size_word" 7 (.none),
 fR 668 (cy 78) "extract_by" 7 (.none),
 fR 675 (cy 79) "last_reference" 7 (.none),
 fR 680 (cy 80) "with_key" 7 (.none),
 fR 687 (cy 81) "home_of" 7 (.none),
 fR 692 (cy 82) "lay_pairs" 7 (.none),
 fR 699 (cy 83) "lay_and_tidy" 7 (.none),
 fR 706 (cy 84) "embedded" 7 (.none),
 fR 713 (cy 85) "file_specification" 7 (.none),
 fR 718 (cy 86) "attach_stream" 7 (.none),
 fR 723 (cy 87) "detach" 7 (.none),
 fR 731 (cy 90) "_law_draw" 8 (.none),
 fR 738 (cy 91) "_law_pen" 8 (.none),
 fR 745 (cy 92) "_law_octets" 8 (.none),
 fR 752 (cy 93) "_law_plain" 8 (.none),
 fR 759 (cy 94) "_law_spec" 8 (.none),
 fR 764 (cy 95) "_law_tree" 8 (.none),
 fR 771 (cy 96) "_law_document" 8 (.none),
 fR 776 (cy 97) "_law_rest" 8 (.none),
 fR 781 (cy 98) "_law_right" 8 (.none),
 fR 793 (cy 100) "law" 8 (.none),
 fR 342 (mY 22 1) "Lookup.fetch" 3 (.none),
 fR 349 (mY 22 2) "Lookup.get" 3 (.none),
 fR 370 (mY 23 0) "Shelf.put" 3 (.none),
 fR 377 (mY 23 1) "Shelf.add" 3 (.none),
 fR 384 (mY 23 2) "Shelf.drop" 3 (.none),
 fR 391 (mY 23 3) "Shelf.numbers" 3 (.none),
 fR 398 (mY 23 4) "Shelf.root" 3 (.none),
 fR 403 (mY 23 5) "Shelf.told" 3 (.none),
 fR 282 (mY 15 1) "Reference.pair" 3 (.none),
 fR 211 (mY 12 0) "Name.__init__" 3 (.none),
 fR 233 (mY 13 0) "String.__init__" 3 (.ref 226),
 fR 254 (mY 14 0) "Stream.__init__" 3 (.none),
 fR 275 (mY 15 0) "Reference.__init__" 3 (.none),
 fR 335 (mY 22 0) "Lookup.__init__" 3 (.ref 328),
 fR 36 (mY 2 0) "PaperError.__init__" 1 (.ref 29),
 fR 788 (cy 99) "_law_refused" 8 (.none)]
noncomputable def Ik:List (Nat×Str×Nat×List Value×List Value×List Value×List (Option Value)):=[
 (46,"PaperError",45,[.type "Exception"],[.ref 46, .type "Exception", .type "BaseException", .type "object"],[.ref 59, .ref 71, .ref 83],[(some (.ref 22)),none,(some (.str "PaperError" 196)),(some (.str "PaperError" 204)),(some (.builtin "Exception.__new__")),(some (.bool true))]),
 (71,"TreeFault",70,[.ref 46],[.ref 71, .ref 46, .type "Exception", .type "BaseException", .type "object"],[],[(some (.ref 62)),none,(some (.str "TreeFault" 252)),(some (.str "TreeFault" 260)),(some (.builtin "Exception.__new__")),(some (.bool true))]),
 (83,"DraftFault",82,[.ref 46],[.ref 83, .ref 46, .type "Exception", .type "BaseException", .type "object"],[],[(some (.ref 74)),none,(some (.str "DraftFault" 268)),(some (.str "DraftFault" 276)),(some (.builtin "Exception.__new__")),(some (.bool true))]),
 (179,"Decimal",178,[.type "object"],[.ref 179, .type "object"],[],[none,none,(some (.str "Decimal" 286)),(some (.str "Decimal" 294)),(some (.builtin "object.__new__")),(some (.bool true))]),
 (214,"Name",213,[.type "object"],[.ref 214, .type "object"],[],[none,none,(some (.str "Name" 419)),(some (.str "Name" 427)),(some (.builtin "object.__new__")),(some (.bool true))]),
 (236,"String",235,[.type "object"],[.ref 236, .type "object"],[],[none,none,(some (.str "String" 448)),(some (.str "String" 456)),(some (.builtin "object.__new__")),(some (.bool true))]),
 (257,"Stream",256,[.type "object"],[.ref 257, .type "object"],[],[none,none,(some (.str "Stream" 479)),(some (.str "Stream" 487)),(some (.builtin "object.__new__")),(some (.bool true))]),
 (285,"Reference",284,[.type "object"],[.ref 285, .type "object"],[],[none,none,(some (.str "Reference" 510)),(some (.str "Reference" 518)),(some (.builtin "object.__new__")),(some (.bool true))]),
 (352,"Lookup",351,[.type "object"],[.ref 352, .type "object"],[.ref 406],[none,none,(some (.str "Lookup" 587)),(some (.str "Lookup" 595)),(some (.builtin "object.__new__")),(some (.bool true))]),
 (406,"Shelf",405,[.ref 352],[.ref 406, .ref 352, .type "object"],[],[(some (.ref 357)),none,(some (.str "Shelf" 639)),(some (.str "Shelf" 647)),(some (.builtin "object.__new__")),(some (.bool true))])]
noncomputable def MI:List (Nat×Nat×List (Str×Nat×Value)):=[
 (45,3,[("__module__",203, .str "paperhold.errors" 194),("__firstlineno__",207, .int 5 206),("__init__",218, .ref 36),("told",225, .ref 43),("__static_attributes__",228, .ref 44),("__weakref__",230, .ref 47),("__doc__",231, .none)]),
 (70,2,[("__module__",259, .str "paperhold.errors" 194),("__firstlineno__",263, .int 16 262),("__static_attributes__",264, .ref 69),("__doc__",265, .none)]),
 (82,2,[("__module__",275, .str "paperhold.errors" 194),("__firstlineno__",279, .int 18 278),("__static_attributes__",280, .ref 81),("__doc__",281, .none)]),
 (178,4,[("__module__",293, .str "paperhold.decimals" 284),("__firstlineno__",297, .int 21 296),("__init__",306, .ref 99),("plus",314, .ref 106),("minus",322, .ref 113),("times",331, .ref 120),("negated",338, .ref 127),("compared",346, .ref 134),("is_whole",353, .ref 141),("floor",360, .ref 148),("rounded",368, .ref 155),("told",375, .ref 162),("text",383, .ref 169),("least_text",390, .ref 176),("__static_attributes__",393, .ref 177),("__dict__",395, .ref 180),("__weakref__",397, .ref 181),("__doc__",398, .none)]),
 (213,4,[("__module__",426, .str "paperhold.objects" 415),("__firstlineno__",430, .int 77 429),("__init__",438, .ref 211),("__static_attributes__",440, .ref 212),("__dict__",442, .ref 215),("__weakref__",444, .ref 216),("__doc__",445, .none)]),
 (235,4,[("__module__",455, .str "paperhold.objects" 415),("__firstlineno__",459, .int 81 458),("__init__",468, .ref 233),("__static_attributes__",471, .ref 234),("__dict__",473, .ref 237),("__weakref__",475, .ref 238),("__doc__",476, .none)]),
 (256,4,[("__module__",486, .str "paperhold.objects" 415),("__firstlineno__",490, .int 86 489),("__init__",499, .ref 254),("__static_attributes__",502, .ref 255),("__dict__",504, .ref 258),("__weakref__",506, .ref 259),("__doc__",507, .none)]),
 (284,4,[("__module__",517, .str "paperhold.objects" 415),("__firstlineno__",521, .int 91 520),("__init__",530, .ref 275),("pair",537, .ref 282),("__static_attributes__",540, .ref 283),("__dict__",542, .ref 286),("__weakref__",544, .ref 287),("__doc__",545, .none)]),
 (351,4,[("__module__",594, .str "paperhold.objects" 415),("__firstlineno__",598, .int 167 597),("__init__",607, .ref 335),("fetch",619, .ref 342),("get",628, .ref 349),("__static_attributes__",631, .ref 350),("__dict__",633, .ref 353),("__weakref__",635, .ref 354),("__doc__",636, .none)]),
 (405,2,[("__module__",646, .str "paperhold.objects" 415),("__firstlineno__",650, .int 186 649),("put",660, .ref 370),("add",669, .ref 377),("drop",677, .ref 384),("numbers",684, .ref 391),("root",692, .ref 398),("told",698, .ref 403),("__static_attributes__",699, .ref 404),("__doc__",700, .none)])]
noncomputable def lY:List (Nat×List Value):=[(409,[.str "Size" 705, .str "Prev" 706, .str "XRefStm" 707]),
 (437,[.int 7 751, .int 12 752, .int 17 753, .int 22 754]),
 (438,[.int 5 755, .int 9 756, .int 14 757, .int 20 758]),
 (439,[.int 4 759, .int 11 760, .int 16 761, .int 23 762]),
 (440,[.int 6 763, .int 10 764, .int 15 765, .int 21 766]),
 (441,[.ref 437, .ref 438, .ref 439, .ref 440]),
 (442,[.int 1732584193 768, .int 4023233417 769, .int 2562383102 770, .int 271733878 771]),
 (724,[.bytes ⟨[97]⟩ 1170, .bytes ⟨[98]⟩ 1171, .bytes ⟨[97,98]⟩ 1172, .bytes ⟨[]⟩ 1173, .bytes ⟨[255]⟩ 1174]),
 (585,[.none]),
 (226,[.bool false]),
 (328,[.none, .none]),
 (29,[.int (-1) 209])]
noncomputable def Ib:List (Nat×List Value):=[(620,[.str "tree_built" 1016, .str "tree_built" 1017, .str "/claim/cut.py" 1018, .int 413 0, .int 3 0, .int 0 0, .int 0 0, .int 3 0, .ref 617, .bool true, .int 181 0, .ref 618, .none, .none, .none, .ref 619, .int 1019 0, .int 413 0, .str "/claim/cut.py" 1020]),
 (792,[.str "law" 1264, .str "law" 1265, .str "/claim/cut.py" 1266, .int 608 0, .int 1 0, .int 0 0, .int 0 0, .int 3 0, .ref 789, .bool true, .int 181 0, .ref 790, .none, .none, .none, .ref 791, .int 1267 0, .int 608 0, .str "/claim/cut.py" 1268])]
noncomputable def gv(x:String)(v:Value):Str×Value:=(x,v)
noncomputable def lM:List (Str×Value):=[
 gv "_wall" (.ref 21),gv "PaperError" (.ref 46),gv "FilterFault" (.ref 59),gv "TreeFault" (.ref 71),gv "DraftFault" (.ref 83),gv "Decimal" (.ref 179),gv "sign_text" (.ref 190),gv "decimal_of" (.ref 197),gv "MOST_HOPS" (.int 30 417),gv "Name" (.ref 214),gv "String" (.ref 236),gv "Stream" (.ref 257),gv "Reference" (.ref 285),gv "kind_of" (.ref 296),gv "told_plain" (.ref 303),gv "told" (.ref 308),gv "told_objects" (.ref 308),gv "parts_of" (.ref 313),gv "references_in" (.ref 320),gv "Lookup" (.ref 352),gv "Shelf" (.ref 406),gv "PLACES_OF_FILES" (.ref 409),gv "is_there" (.ref 416),gv "plain_trailer" (.ref 421),gv "walk" (.ref 426),gv "reached" (.ref 431),gv "unreached" (.ref 436),gv "WORD_md5" (.int 4294967296 745),gv "SCALE" (.int 1000000000000000000000000000000000000000000000000000000000000 749),gv "TURNS" (.ref 441),gv "BEGIN" (.ref 442),gv "first_sine" (.ref 449),gv "added_numbers" (.ref 456),gv "low_first" (.ref 461),gv "padded" (.ref 468),gv "word_in" (.ref 475),gv "words_in" (.ref 480),gv "mixed_bits" (.ref 487),gv "word_at" (.ref 494),gv "rotated" (.ref 501),gv "stepped" (.ref 508),gv "block_taken" (.ref 513),gv "digest" (.ref 518),gv "MOST_DEEP" (.int 40 878),gv "MOST_PLACES" (.int 16 880),gv "key_object" (.ref 525),gv "key_of" (.ref 532),gv "node_of" (.ref 539),gv "row_of" (.ref 546),gv "node_pairs" (.ref 551),gv "node_limits" (.ref 558),gv "longer_way" (.ref 565),gv "tree_pairs" (.ref 570),gv "first_at_least" (.ref 577),gv "kid_for" (.ref 584),gv "tree_find" (.ref 590),gv "even_parts" (.ref 597),gv "leaf_node" (.ref 604),gv "inner_node" (.ref 611),gv "as_root" (.ref 616),gv "tree_built" (.ref 621),gv "WORD_attachments" (.str "Names" 1024),gv "BRANCH" (.str "EmbeddedFiles" 1026),gv "WIDTH" (.int 32 1028),gv "MOST_STEPS" (.int 30 1030),gv "names_of" (.ref 628),gv "file_pairs" (.ref 635),gv "attached" (.ref 640),gv "specification" (.ref 647),gv "stream_of" (.ref 654),gv "size_word" (.ref 661),gv "extract_by" (.ref 668),gv "last_reference" (.ref 675),gv "with_key" (.ref 680),gv "home_of" (.ref 687),gv "lay_pairs" (.ref 692),gv "lay_and_tidy" (.ref 699),gv "embedded" (.ref 706),gv "file_specification" (.ref 713),gv "attach_stream" (.ref 718),gv "detach" (.ref 723),gv "_law_names" (.ref 724),gv "_law_draw" (.ref 731),gv "_law_pen" (.ref 738),gv "_law_octets" (.ref 745),gv "_law_plain" (.ref 752),gv "_law_spec" (.ref 759),gv "_law_tree" (.ref 764),gv "_law_document" (.ref 771),gv "_law_rest" (.ref 776),gv "_law_right" (.ref 781),gv "_law_refused" (.ref 788),gv "law" (.ref 793)]
noncomputable def ZI(r:Nat×Stmt×Str×Nat×Value):Addr×Obj:=(r.1,{cls:= .type "function",data:= .func (fnX (tK r.2.1).1 r.2.2.1 (tK r.2.1).2.1 (tK r.2.1).2.2.1 (tK r.2.1).2.2.2 [] r.2.2.2.2 .none .none (Zg r.2.2.2.1) none (.ref (r.1 - 1)) .none)})
noncomputable def clO(r:Nat×Str×Nat×List Value×List Value×List Value×List (Option Value)):Addr×Obj:=(r.1,{cls:= .type "type",data:= .cls {name:=r.2.1,bases:=r.2.2.2.1,mro:=r.2.2.2.2.1,ns:=r.2.2.1,qualname:=r.2.1,subclasses:=r.2.2.2.2.2.1},slots:=r.2.2.2.2.2.2.toArray})
noncomputable def nsO(P:Params)(r:Nat×Nat×List (Str×Nat×Value)):Addr×Obj:=(r.1,dictOf (r.2.2.map λe=>⟨PyData.keyHash P e.1, .str e.1 e.2.1,e.2.2⟩) r.2.1)
noncomputable def tpO(r:Nat×List Value):Addr×Obj:=(r.1,fO r.2 0)
noncomputable def cdO(r:Nat×List Value):Addr×Obj:=(r.1,{cls:= .type "code",data:= .fields r.2.toArray})
noncomputable def KK(P:Params):Frag:=Ik.map clO++MI.map (nsO P)++iN.map ZI++lY.map tpO++Ib.map cdO
noncomputable def KA:List Addr:=Ik.map (λZ=>Z.1)++MI.map (λZ=>Z.1)++iN.map (λZ=>Z.1)++lY.map (λZ=>Z.1)++Ib.map (λZ=>Z.1)
noncomputable def tP(h:Heap)(c:Addr):Option Value:=(h.get? c).bind λo=>match o.data with
 | .fields vs=>vs[1]?
 |_=>none
noncomputable def uY(q:Str)(v:Option Value):Bool:=match v with
 |some (.str x _)=>kR x q
 |_=>false
noncomputable def qV:Program:=view PR [100]
noncomputable def gh:List Str:=(lM.map (λZ=>Z.1)).dropLast
noncomputable def Wc(s:Shared):Bool:=lM.all (λp=>decide (s.heap.nsMap mainGlobals p.1=some p.2))&&iN.all (λr=>uY r.2.2.1 (tP s.heap (r.1 - 1)))&&Et.all (λp=>(s.heap.nsMap mainGlobals p.1).isNone)&&(s.heap.get? sysModules).isSome
noncomputable def Kv(s:Shared):List (Option Obj)×List (Option Obj):=(KA.map s.heap.get?,[618,790].map s.heap.get?)
noncomputable def JN(w:World):List (Option Obj)×List (Option Obj):=((KK w.params).map (λp=>some p.2),[618,790].map λ_=>some (tabObj #[]))
open PySem.W.Fast in
theorem DO:openSeen=tw4187177175401517315:=te4187177175401517315
theorem J8(w:World)(os:OsState):(AO stepOk PySem.W.stepT denote treeTable PR w (boot_heap w.params).objs.size ((boot_heap w.params).nsMap mainGlobals "__annotations__") 6000 (s0 w os) (topStub PR)).map (λs=>(PN w s.abs,openSeen qV gh (importedModules PR.main.body) Wc true s.abs,Kv s.abs))=some (true,openGood qV gh,JN w):=by
 rw[FI,DO]
 kernel_rfl
theorem sQ:∀{ps:List Str}{us:List Value}{x:Str},(ps.zip us).lookup x=none->x ∉ ps.take us.length
 | [],us,_,_=>by rw[List.take_nil];exact λh=>nomatch h
 |p::ps,[],_,_=>λh=>nomatch h
 |p::ps,u::us,x,h=>by
  rw[List.zip_cons_cons,lV]at h;cases hx:(x==p)with
  |true=>rw[hx]at h;cases h
  |false=>
   rw[hx]at h;exact λq=>(cN.mp q).elim (λe=>by rw[e,lQ]at hx;cases hx) (sQ h)
theorem vq:∀{ps:List Str}{us:List Value}{x:Str},x ∉ ps->(ps.zip us).lookup x=none
 | [],_,_,_=>rfl
 |_::_,[],_,_=>rfl
 |p::ps,u::us,x,h=>by
  rw[List.zip_cons_cons,lV,show(x==p)=false from Av.mpr λq=>h (q▸ .head _)];exact vq λq=>h (.tail _ q)
theorem vZ:∀{ps:List Str}{us:List Value}{s:List (Str×Value)},ps.Nodup->us.length=ps.length->(∀x ∈ ps,s.lookup x=(ps.zip us).lookup x)->ps.filterMap (λn=>(s.lookup n).map (λZ=>(n,Z)))=ps.zip us
 | [],us,_,_,h,_=>by cases us<;>first |rfl |cases h
 |p::ps,[],_,_,h,_=>by cases h
 |p::ps,u::us,s,nd,h,k=>by
  have nd:=fU.mp nd;rw[List.filterMap_cons,k p (.head _),List.zip_cons_cons,lV,lQ];refine congrArg ((p,u)::·) (vZ nd.2 (Nat.succ.inj h) λx hx=> ?_);rw[k x (.tail _ hx),List.zip_cons_cons,lV,show(x==p)=false from Av.mpr λq=>nd.1 (q▸hx)]
noncomputable def BI(s:List (Str×Value))(x:Str×Value):List (Str×Value):=if(s.lookup x.1).isNone=true then s++[(x.1,x.2)]else s
theorem Ud:∀(l:List (Str×Value))(s:List (Str×Value)),(forIn l s λx s=>if(List.lookup x.1 s).isNone=true then(pure (ForInStep.yield (s++[(x.1,x.2)])):Sem (ForInStep (List (Str×Value))))else pure (ForInStep.yield s))=pure (l.foldl BI s)
 | [],s=>rfl
 |x::l,s=>by
  rw[List.forIn_cons,List.foldl_cons, <-Ud l];unfold BI;split<;>rfl
theorem zS:∀{l s:List (Str×Value)},(∀x ∈ l,(s.lookup x.1).isNone=false)->l.foldl BI s=s
 | [],_,_=>rfl
 |x::l,s,h=>by
  have e:BI s x=s:=aZ (by rw[h x (.head _)];exact λq=>nomatch q);rw[List.foldl_cons,e];exact zS λy hy=>h y (.tail _ hy)
theorem yS:∀{s t:List (Str×Value)}{x:Str},s.lookup x=none->(s++t).lookup x=t.lookup x
 | [],_,_,_=>rfl
 |(y,v)::s,t,x,h=>by
  rw[List.cons_append,lV];rw[lV]at h;cases hx:(x==y)with
  |true=>rw[hx]at h;cases h
  |false=>rw[hx]at h;exact yS h
theorem zR:∀{ps:List Str}{ds:List Value}{s:List (Str×Value)},ps.Nodup->(∀x ∈ ps,s.lookup x=none)->(ps.zip ds).foldl BI s=s++ps.zip ds
 | [],_,s,_,_=>(fC s).symm
 |_::_,[],s,_,_=>(fC s).symm
 |p::ps,d::ds,s,nd,h=>by
  have nd:=fU.mp nd;have e:BI s (p,d)=s++[(p,d)]:=bw (by rw[h p (.head _)];rfl);rw[List.zip_cons_cons,List.foldl_cons,e,zR nd.2 λx hx=>by rw[yS (h x (.tail _ hx)),lV,show(x==p)=false from Av.mpr λq=>nd.1 (q▸hx)];rfl,jA]
  rfl
noncomputable def C8(ps:List Str)(us ds:List Value):List (Str×Value):=ps.filterMap λn=>((((ps.drop (ps.length - ds.length)).zip ds).foldl BI (ps.zip us)).lookup n).map (λZ=>(n,Z))
theorem BE(nd:ps.Nodup)(hl:us.length+fT.length=ps.length)(hd:fT=[]\/fT=ds):C8 ps us ds=ps.zip (us++fT):=by
 unfold C8;rcases hd with rfl |rfl
 ·have hl:us.length=ps.length:=hl;rw[zS λx hx=>by
   cases q:(ps.zip us).lookup x.1 with
   |some _=>rfl
   |none=>exact absurd (show x.1 ∈ ps.take us.length from by rw[hl,List.take_length];exact List.drop_subset _ _ (List.of_mem_zip hx).1) (sQ q)]
  rw[fC];exact vZ nd hl λZ Z=>rfl
 ·have e1:ps.length - fT.length=us.length:=by exact Nat.sub_eq_of_eq_add hl.symm
  have e2:(ps.take us.length).length=us.length:=List.length_take.trans (Nat.min_eq_left (by exact cS (fN _ _) (jR hl)));have z1:ps.zip us=(ps.take us.length).zip us:=by
   conv=>lhs;rw[<-List.take_append_drop us.length ps];rw[<-fC us]
   rw[List.zip_append (by rw[fC];exact e2)];simp
  have z2:ps.zip (us++fT)=(ps.take us.length).zip us++(ps.drop us.length).zip fT:=by
   conv=>lhs;rw[<-List.take_append_drop us.length ps]
   exact List.zip_append e2
  have yN:=nd;rw[<-List.take_append_drop us.length ps]at yN;have yN:=nk.mp yN;rw[e1,z1,zR yN.2.1 λx hx=>vq λq=>yN.2.2 x q x hx rfl, <-z2];exact vZ nd (by rw[dJ];exact hl) λZ Z=>rfl
structure QL(p:Arguments)(ps:List Str):Prop where
 po:p.posonlyargs=[]
 va:p.vararg=none
 ko:p.kwonlyargs=[]
 kw:p.kwarg=none
 ar:p.args.map (λZ=>Z.arg)=ps
theorem LM(h:QL fd.params ps)(nd:ps.Nodup)(hl:us.length+fT.length=ps.length)(hd:fT=[]\/fT=ds)(hn:ds.length<=ps.length):
  ∃k:Option (Array Value)->Sem (List (Str×Value)),bindArgs fd ⟨us,[]⟩=seqItems? fd.defaults >>= k/\∀o:Option (Array Value),(o.getD #[]).toList=ds->k o=pure (ps.zip (us++fT)):=by
 obtain⟨fn,q,⟨po,args,va,ko,kd,kw,df⟩,fb,sc,gl,cl,dV,kV,dc,pm,an,cd,ct,bi⟩:=fd;obtain⟨h1,h2,h3,h4,h5⟩:=h;cases h1;cases h2;cases h3;cases h4;cases h5;refine⟨_,rfl,λo ho=> ?_⟩;have e:(o.getD #[]).toList.drop ((o.getD #[]).toList.length - (args.map (λZ=>Z.arg)).length)=ds:=by rw[ho,Nat.sub_eq_zero_of_le hn];rfl
 refine(aZ λq=> ?_).trans ((aZ λq=> ?_).trans ?_)
 ·exact absurd (iD (bA q).1) (pX.mpr (hl▸fN _ _))
 ·have z:((args.map (λZ=>Z.arg)).take ((args.map (λZ=>Z.arg)).length - ((o.getD #[]).toList.drop ((o.getD #[]).toList.length - (args.map (λZ=>Z.arg)).length)).length)).filter (λn=>(((args.map (λZ=>Z.arg)).zip us).lookup n).isNone)=[]:=by
   rw[e];refine List.filter_eq_nil_iff.mpr λx hx h=>sQ (EO.mp h) (List.take_subset_take_left _ ?_ hx);clear hx e ho q hn;rcases hd with rfl |rfl
   ·exact cS (Nat.sub_le _ _) (jR hl.symm)
   ·exact jR (Nat.sub_eq_of_eq_add hl.symm)
  have q:=(congrArg (λl=> !List.isEmpty l) z).symm.trans q;cases q
 ·refine(congrArg (λZ=>Bind.bind Z _) (Ud _ _)).trans ?_;refine congrArg (pure:List (Str×Value)->Sem (List (Str×Value))) ((congrArg (List.filterMap _) (fC _)).trans (Eq.trans ?_ (BE (ds:=ds) nd hl hd)));rw[<-e]
  rfl
theorem vp{K:Frag}(nd:(K.map (λZ=>Z.1)).Nodup)(h:(a,o) ∈ K):K.lookup a=some o:=by
 induction K with
 |nil=>cases h
 |cons p l ih=>
  have yN:=fU.mp nd;rw[lV];rcases cN.mp h with e |e
  ·clear yN h nd;subst e;rw[lQ]
  ·rw[show(a==p.1)=false from Av.mpr λq=>yN.1 (cX.mpr ⟨_,e,q⟩)];exact ih yN.2 e
theorem N1(P:Params):KA=(KK P).map (λZ=>Z.1):=by kernel_rfl
theorem Vp:KA.Nodup:=by decide+kernel
theorem NY(P:Params):((KK P).map (λZ=>Z.1)).Nodup:=N1 P▸Vp
theorem NZ(h:r ∈ iN):(KK P).lookup r.1=some (ZI r).2:=vp (NY P) (g6 _ (g6 _ (iF _ (cX.mpr ⟨r,h,rfl⟩))))
theorem Je(h:r ∈ lY):(KK P).lookup r.1=some (fO r.2 0):=vp (NY P) (g6 _ (iF _ (cX.mpr ⟨r,h,rfl⟩)))
structure nJ(w:World)(mg:Str->Option Value)(h:Heap):Prop where
 vz:(KK w.params).In h
 tab:∀P ∈ [618,790],h.get? P=some (tabObj #[])
 gl:∀p ∈ lM,mg p.1=some p.2
 cd:∀r ∈ iN,uY r.2.2.1 (tP h (r.1 - 1))=true
 bl:∀p ∈ Et,mg p.1=none
 sm:∃o,h.get? sysModules=some o
noncomputable def HT:Hook where
 α:=List (Option Obj)×List (Option Obj)
 obs:=Kv
 val:=JN
 says w h:=(KK w.params).In h/\∀P ∈ [618,790],h.get? P=some (tabObj #[])
 of w s e:=⟨Frag.in_of (N1 _) (Prod.mk.inj e).1,List.map_inj_left.mp (Prod.mk.inj e).2⟩
 keeps w h h' x k:=⟨x.1.keeps k,λP hP=>k _ _ (x.2 P hP)⟩
structure NQ(mg:Str->Option Value)(h:Heap):Prop where
 gl:∀p ∈ lM,mg p.1=some p.2
 cd:∀r ∈ iN,uY r.2.2.1 (tP h (r.1 - 1))=true
 bl:∀p ∈ Et,mg p.1=none
 sm:∃o,h.get? sysModules=some o
theorem NQ.of(s:Shared)(h:Wc s=true):NQ (s.heap.nsMap mainGlobals) s.heap:=by
 obtain⟨h,h4⟩:=bA h;obtain⟨h,h3⟩:=bA h;obtain⟨h1,h2⟩:=bA h;exact⟨λp hp=>iD (cZ.mp h1 p hp),cZ.mp h2,λp hp=>EO.mp (cZ.mp h3 p hp),kq.mp h4⟩
theorem NQ.keeps(mg:Str->Option Value)(h h':Heap)(x:NQ mg h)(k:∀b o,h.get? b=some o->h'.get? b=some o):NQ mg h' where
 gl:=x.gl
 cd r hr:=by
  have:=x.cd r hr;unfold tP at this⊢;cases e:h.get? (r.1 - 1)with
  |none=>rw[e]at this;cases this
  |some o=>rw[e]at this;rw[k _ _ e];exact this
 bl:=x.bl
 sm:=let⟨o,e⟩:=x.sm;⟨o,k _ _ e⟩
set_option tactic.hygienic true in
theorem BA(e:uY q (tP h c)=true):h.CodeRec (.ref c) q:=by
 unfold tP at e;cases e1:h.get? c with
 |none=>rw[e1]at e;cases e
 |some o=>
  rw[e1]at e;obtain⟨oc,od,dt,sl⟩:=o;cases dt<;>first |(cases e;done) |skip
  rename_i vs;have e:uY q vs[1]? =true:=e;cases e2:vs[1]? with
  |none=>rw[e2]at e;cases e
  |some v=>
   rw[e2]at e;cases v<;>first |(cases e;done) |skip
   exact⟨c,_,vs,_,rfl,e1,rfl,e2.trans (by rw[iU e])⟩
noncomputable def pO:Cl->Addr
 | .name=>214
 | .string=>236
 | .stream=>257
 | .reference=>285
noncomputable def tQ:Nat->Str
 | 0=>"tree_built"
 |_=>"law"
noncomputable def gd(w:World):Gd where
 w:=w
 pO:=pO
 g_:=406
 dH _:=752
 nt j:=match j with | 0=>618 |_=>790
 qd j:=(tQ j++".<locals>.")++"<lambda>"
noncomputable abbrev Hy:List Addr:=[618,790]
noncomputable abbrev Aq(h:Heap):Heap:=hideAll h Hy
section
variable{w:World}{mg mb:Str->Option Value}{h:Heap}(S:nJ w mg h)
include S in
theorem nJ.out{a:Addr}{o:Obj}(e:(KK w.params).lookup a=some o):(Aq h).get? a=some o:=nR _ (S.vz _ _ e) λq=>by
 have:(KK w.params).lookup a=none:=by
  rcases cN.mp q with q |q
  ·rw[q];kernel_rfl
  ·rw[dQ.mp q];kernel_rfl
 rw[this]at e;cases e
theorem WW(n:a ∉ Hy)(x:h.Ns a m):(Aq h).Ns a m:=let⟨o,es,ep,e,r⟩:=x;⟨o,es,ep,nR _ e n,r⟩
noncomputable def j4:Ex->Addr
 | .tree=>71
 | .i_=>83
noncomputable def qW(mg:Str->Option Value)(h:Heap):Prop:=∃bm ob,mg "__builtins__"=some (.ref bm)/\bm≠builtinsNs/\h.get? bm=some ob/\ob.cls= .type "module"/\ob.dict=some builtinsNs/\ob.data= .plain
include S in
theorem bmB(T:TopRead qV (looseW qV gh) mg mb h)(bm:qW mg h):∃bm ob,mg "__builtins__"=some (.ref bm)/\bm≠builtinsNs/\bm≠mainGlobals/\(Aq h).get? bm=some ob/\ob.cls= .type "module"/\ob.dict=some builtinsNs/\ob.data= .plain:=by
 refine cps λPP kk=> ?_;obtain⟨bm,ob,h1,h2,h3,h4,h5,h6⟩:=bm;refine kk ?_;clear kk;refine⟨bm,ob,h1,h2,λq=> ?_,nR _ h3 λq=> ?_,h4,h5,h6⟩
 ·obtain⟨o,es,ep,e,d,_⟩:=T.g;rw[q]at h3;cases h3.symm.trans e;cases h6.symm.trans d
 ·clear h6 h5;cases(S.tab bm q).symm.trans h3;cases h4
theorem SM(T:TopRead qV (looseW qV gh) mg mb h):(Aq h).NoLimit:=let⟨mc,a,b⟩:=T.nolimit;⟨mc,WW (by decide) a,b⟩
noncomputable def dU(T:TopRead qV (looseW qV gh) mg mb h)(bm:qW mg h):aP (gd w) (Aq h)where
 p:=qV
 loose:=looseW qV gh
 mg:=mg
 mb:=mb
 T:=⟨WW (by decide) T.g,WW (by decide) T.b,SM T,T.builtins,T.free⟩
 sm:=let⟨o,e⟩:=S.sm;⟨o,nR _ e (by decide)⟩
 j4:=j4
 K:=KK w.params
 vz _ _ e:=S.out e
 vj:=SM T
 bmain:=bmB S T bm
end
noncomputable abbrev JF:=Nat×Stmt×Str×Nat×Value
noncomputable def zD(r:JF):List Value:=match r.2.2.2.2 with
 | .ref T=>(lY.lookup T).getD []
 |_=>[]
noncomputable def oj(r:JF):List Str:=(tK r.2.1).2.1.args.map (λZ=>Z.arg)
noncomputable def kr(r:JF):Scope:=(tK r.2.1).2.2.2
noncomputable def Yd(v:Value):Bool:=match v with
 | .ref T=>(lY.lookup T).isSome
 | .none=>true
 |_=>false
noncomputable def Mz(r:JF):Bool:=(tK r.2.1).2.1.posonlyargs.isEmpty&&(tK r.2.1).2.1.vararg.isNone&&(tK r.2.1).2.1.kwonlyargs.isEmpty&&(tK r.2.1).2.1.kwarg.isNone&&vf (oj r)&&Nat.ble (zD r).length (oj r).length&&Yd r.2.2.2.2
 &&vF (kr r).kind&& !(kr r).isGenerator&& !(kr r).isCoroutine
theorem J9:iN.all Mz=true:=by kernel_rfl
theorem sP:∀{l:List (Nat×β)},l.lookup x=some d->(x,d) ∈ l
 |(y,e)::r,h=>by
  rw[lV]at h;cases q:(x==y)with
  |true=>rw[q]at h;cases h;rw[beq_iff_eq.mp q];exact .head _
  |false=>rw[q]at h;exact .tail _ (sP h)
noncomputable def PT(r:JF):FuncData:=fnX (tK r.2.1).1 r.2.2.1 (tK r.2.1).2.1 (tK r.2.1).2.2.1 (kr r) [] r.2.2.2.2 .none .none (Zg r.2.2.2.1) none (.ref (r.1 - 1)) .none
section
variable{w:World}{mg mb:Str->Option Value}{h:Heap}(S:nJ w mg h)
include S in
theorem nJ.code{r:JF}(hr:r ∈ iN):(Aq h).CodeRec (.ref (r.1 - 1)) r.2.2.1:=by
 refine BA ?_;have e:=S.cd r hr;unfold tP at e⊢;cases e1:h.get? (r.1 - 1)with
 |none=>rw[e1]at e;cases e
 |some o=>
  rw[e1]at e;rw[nR _ e1 λq=>by
   cases(S.tab _ q).symm.trans e1;cases e]
  exact e
include S in
theorem GQ{r:JF}(hr:r ∈ iN){fW:List D}{fT:List Value}(hd:fT=[]\/fT=zD r)(hv:∀F,cG (gd w) F fW fT):lE (gd w) (Aq h) r.1 (PT r) r.2.2.1 (kr r) (tK r.2.1).2.2.1 (.ref (r.1 - 1)) (oj r) fW fT:=by
 have k:=cZ.mp J9 r hr;unfold Mz at k;simp only[Bool.and_eq_true,List.isEmpty_iff,Option.isNone_iff_eq_none,Bool.not_eq_true']at k;refine cps λPP kk=> ?_;obtain⟨⟨⟨⟨⟨⟨⟨⟨⟨k1,k2⟩,k3⟩,k4⟩,k5⟩,k6⟩,k7⟩,k8⟩,k9⟩,k0⟩:=k;refine kk ?_;clear kk;refine⟨⟨_,S.out (NZ hr),rfl⟩,⟨_,_,_,_,_,_,_,_,rfl⟩,S.code hr,k0,k9,kK k8,λF Z=>hv F,λs us st hl=> ?_⟩;obtain⟨k,e1,e2⟩:=LM (fd:=PT r) (ps:=oj r) (us:=us) (ds:=zD r) ⟨k1,k2,k3,k4,rfl⟩ (iJ k5) hl hd (g7 k6);unfold zD at e2;cases hq:r.2.2.2.2 with
 |none=>
  rw[hq]at e2;refine BindsTo.of_eq (e1.trans ?_);show seqItems? r.2.2.2.2 >>= k=_;rw[hq];exact e2 none rfl
 |ref T=>
  rw[hq]at e2 k7;obtain⟨l,hl⟩:=kq.mp k7;have e2:∀o:Option (Array Value),(o.getD #[]).toList=(lY.lookup T).getD []->_:=e2;rw[hl]at e2;exact BindsTo.of_defaults (T:=T) (by exact hq) (st _ _ (S.out (Je (sP hl)))) rfl e1 (e2 (some l.toArray) rfl)
 |_=>rw[hq]at k7;cases k7
end
noncomputable def WJ:JF:=(0,default,"",0, .none)
noncomputable def dO(id:Nat):JF:=iN.getD id WJ
noncomputable def fa(id:Nat):Addr:=(dO id).1
theorem HR:Am.map (λf=>(f.ps,f.body,f.scope))=(iN.take 73).map λr=>(oj r,(tK r.2.1).2.2.1,kr r):=by kernel_rfl
theorem Lm:Am.map (λf=>(f.fW,f.tab))=(List.range 73).map λi=>(if i=32 then[D.none]else[],if i=37 then some 0 else if i=63 then some 1 else none):=by kernel_rfl
theorem CP{l:List α}(e:l.map f=m){i:Nat}(h:l[i]? =some a):m[i]? =some (f a):=by rw[<-e,gB,h];rfl
theorem Cf{id:Nat}(h:Am[id]? =some f):dO id ∈ iN/\f.ps=oj (dO id)/\f.body=(tK (dO id).2.1).2.2.1/\f.scope=kr (dO id):=by
 have:=CP HR h;rw[gB]at this;obtain⟨r,h1,h2⟩:=mS this;have h3:iN[id]? =some r:=by
  rw[List.getElem?_take]at h1;split at h1
  ·exact h1
  ·cases h1
 have e:dO id=r:=by unfold dO;rw[List.getD_eq_getElem?_getD,h3];rfl
 rw[e];have h2:=Prod.mk.inj h2;have h4:=Prod.mk.inj h2.2;exact⟨vX h3,h2.1.symm,h4.1.symm,h4.2.symm⟩
theorem Qi{id:Nat}(h:Am[id]? =some f):f.fW=(if id=32 then[D.none]else[])/\f.tab=if id=37 then some 0 else if id=63 then some 1 else none:=by
 have:=CP Lm h;rw[gB]at this;obtain⟨i,h1,h2⟩:=mS this;have lt:id < 73:=by
  have:=(nc.mp h1).1
  rwa [List.length_range]at this
 rw[List.getElem?_range lt]at h1;cases h1;have h2:=Prod.mk.inj h2;exact⟨h2.1.symm,h2.2.symm⟩
section
variable{w:World}{mg mb:Str->Option Value}{h:Heap}(S:nJ w mg h)(T:TopRead qV (looseW qV gh) mg mb h)(bm:qW mg h)
include S in
theorem we{c:Addr}{j:Nat}(hc:codeHdIn (KK w.params) c ((gd w).nt j)=true)(hj:(gd w).nt j ∈ Hy):(∃k,Value.ref c= .ref k/\CodeHd (Aq h) k ((gd w).nt j))/\∀bm ob,ob.cls= .type "module"->(Aq h).get? bm=some ob->bm≠(gd w).nt j:=
 ⟨⟨c,rfl,codeHd_of_K (λa o e=>S.out e) hc⟩,λbm ob Z e q=>by rw[q,hideAll_none _ hj]at e;cases e⟩
include S in
theorem Ui{id:Nat}{f:FE}(hf:Am[id]? =some f):QZ (dU S T bm) f (fa id):=by
 refine cps λPP kk=> ?_;obtain⟨hr,e1,e2,e3⟩:=Cf hf;obtain⟨d1,d2⟩:=Qi hf;refine kk ?_;clear kk;have Z:∀{fW:List D}{fT:List Value},fT=[]\/fT=zD (dO id)->(∀F,cG (gd w) F fW fT)->lE (gd w) (Aq h) (fa id) (PT (dO id)) (dO id).2.2.1 f.scope f.body (.ref ((dO id).1 - 1)) f.ps fW fT:=λa b=>by rw[e1,e2,e3];exact GQ S hr a b
 by_cases V2:id=32
 ·rw[bw V2]at d1;clear e3 e2 e1 hr hf;subst V2;exact⟨_,_,_,[.none],d1.symm▸Z (fW:=[.none]) (fT:=[.none]) (.inr (by kernel_rfl)) λF=>⟨_,_,rfl,rfl,rfl⟩,λj e=>by rw[d2]at e;cases e⟩
 ·rw[aZ V2]at d1;refine⟨_,_,_,[],d1.symm▸Z (fW:=[]) (fT:=[]) (.inl rfl) λF=>rfl,λj e=> ?_⟩;rw[d2]at e;split at e
  ·cases e;rename_i h37;clear Z d2 d1 e3 e2 e1 hr hf;subst h37;exact⟨(we S (c:=620) (j:=0) (by kernel_rfl) (.head _)).1,by kernel_rfl,(we S (c:=620) (j:=0) (by kernel_rfl) (.head _)).2⟩
  ·split at e
   ·cases e;rename_i h63;clear V2 Z d2 d1 e3 e2 e1 hr hf f;subst h63;exact⟨(we S (c:=792) (j:=1) (by kernel_rfl) (.tail _ (.head _))).1,by kernel_rfl,(we S (c:=792) (j:=1) (by kernel_rfl) (.tail _ (.head _))).2⟩
   ·cases e
end
theorem za(P:Params):iN.all (λr=>keepIn (KK P) (.ref r.1))=true:=by kernel_rfl
noncomputable def NO:List TC:=[.bool, .int, .list, .dict, .dec, .cls .name, .cls .string, .cls .stream, .cls .reference]
noncomputable def NL:List Tg:=[.none, .bool, .int, .str, .bytes, .tup, .list, .dict, .inst .name, .inst .string, .inst .stream, .inst .reference, .bV]
theorem OA(c:TC):c ∈ NO:=by
 rcases c with _ |_ |_ |_ |_ |c
 ·exact .head _
 ·exact .tail _ (.head _)
 ·exact .tail _ (.tail _ (.head _))
 ·exact .tail _ (.tail _ (.tail _ (.head _)))
 ·exact .tail _ (.tail _ (.tail _ (.tail _ (.head _))))
 ·refine .tail _ (.tail _ (.tail _ (.tail _ (.tail _ ?_))));rcases c with _ |_ |_ |_
  ·exact .head _
  ·exact .tail _ (.head _)
  ·exact .tail _ (.tail _ (.head _))
  ·exact .tail _ (.tail _ (.tail _ (.head _)))
theorem Ow(c:Tg):c ∈ NL:=by
 rcases c with _ |_ |_ |_ |_ |_ |_ |_ |c |_
 ·exact .head _
 ·exact .tail _ (.head _)
 ·exact .tail _ (.tail _ (.head _))
 ·exact .tail _ (.tail _ (.tail _ (.head _)))
 ·exact .tail _ (.tail _ (.tail _ (.tail _ (.head _))))
 ·exact .tail _ (.tail _ (.tail _ (.tail _ (.tail _ (.head _)))))
 ·exact .tail _ (.tail _ (.tail _ (.tail _ (.tail _ (.tail _ (.head _))))))
 ·exact .tail _ (.tail _ (.tail _ (.tail _ (.tail _ (.tail _ (.tail _ (.head _)))))))
 ·refine .tail _ (.tail _ (.tail _ (.tail _ (.tail _ (.tail _ (.tail _ (.tail _ ?_)))))));rcases c with _ |_ |_ |_
  ·exact .head _
  ·exact .tail _ (.head _)
  ·exact .tail _ (.tail _ (.head _))
  ·exact .tail _ (.tail _ (.tail _ (.head _)))
 ·exact .tail _ (.tail _ (.tail _ (.tail _ (.tail _ (.tail _ (.tail _ (.tail _ (.tail _ (.tail _ (.tail _ (.tail _ (.head _))))))))))))
theorem K7(w:World):NO.all (λc=>NL.all λt=>decide (kitOne (KK w.params) (RS (gd w) t) (RQ (gd w) 179 c)=some (PG c t)))=true:=by kernel_rfl
noncomputable def Hq(K:Frag)(D:Addr):Bool:=plainGet K D "__class__"&&hasDictIn K D&&decide (findIn K (.ref D) "__class__"=some (some (.builtin "object.__class__")))&&decide (specialIn K (.builtin "object.__class__") "__get__"=some (some (.builtin "getset_descriptor.__get__")))
 &&decide (takesIn K (.builtin "object.__class__")=some true)&&decide (mroIn K D (.type "object")=some true)
theorem Hp{K:Frag}{D:Addr}(h:Hq K D=true):Dp K D:=by
 unfold Hq at h;simp only[Bool.and_eq_true,decide_eq_true_eq]at h;obtain⟨⟨⟨⟨⟨h1,h2⟩,h3⟩,h4⟩,h5⟩,h6⟩:=h;exact⟨h1,h2,h3,h4,h5,h6⟩
theorem Hl(w:World):[214,236,257,285].all (Hq (KK w.params))=true:=by kernel_rfl
noncomputable def C9(K:Frag)(C:Addr)(x:Str):Bool:=decide (findIn K (.ref C) "__getattribute__"=some (some (.builtin "object.__getattribute__")))&&hasDictIn K C&&(findIn K (.ref C) x).any (noGet K)
theorem zP{K:Frag}(h:C9 K C x=true):BY K C x:=by
 unfold C9 at h;simp only[Bool.and_eq_true,decide_eq_true_eq,Option.any_eq_true]at h;exact⟨h.1.1,h.1.2,h.2⟩
theorem zO(w:World):[Cl.name, .string, .stream, .reference].all (λc=>(bJ c).all (C9 (KK w.params) (pO c)))=true/\[("table":Str),"trailer"].all (C9 (KK w.params) 406)=true:=⟨by kernel_rfl,by kernel_rfl⟩
noncomputable def KH(K:Frag)(C:Addr)(x:Str)(f:Addr):Bool:=plainGet K C x&&decide (findIn K (.ref C) x=some (some (.ref f)))&&isFn K (.ref f)
theorem Cw{K:Frag}(h:KH K C x f=true):t8 K C x f:=by
 unfold KH at h;simp only[Bool.and_eq_true,decide_eq_true_eq]at h;exact⟨h.1.1,h.1.2,h.2⟩
theorem KG(w:World):Po.all (λp=>KH (KK w.params) 406 p.1 (fa p.2)&&decide (p.1 ∉ [("table":Str),"trailer"])&&(Am[p.2]?).isSome)=true:=by kernel_rfl
theorem F5(w:World):KH (KK w.params) 285 "pair" (fa tb.pair)=true:=by kernel_rfl
noncomputable def gfB(p:Str×GK):Bool:=match p.2 with
 | .fn id=>decide (gG lM p.1=some (.ref (fa id)))&&(Am[id]?).isSome
 |_=>true
theorem Le:Lh.all gfB=true:=by kernel_rfl
theorem LK:Et.all (λp=>decide (p.1≠"__name__")&&decide (bootBuiltins p.1=some (Es p.2)))=true:=by kernel_rfl
section
variable{w:World}{mg mb:Str->Option Value}{h:Heap}(S:nJ w mg h)(T:TopRead qV (looseW qV gh) mg mb h)(bm:qW mg h)
theorem El:jy (dU S T bm) 179 where
 PF c t:=iD (cZ.mp (cZ.mp (K7 w) c (OA c)) t (Ow t))
 inst c:=Hp (cZ.mp (Hl w) _ (by cases c<;>first |exact .head _ |exact .tail _ (.head _) |exact .tail _ (.tail _ (.head _)) |exact .tail _ (.tail _ (.tail _ (.head _)))))
 attr c x hx:=zP (cZ.mp (cZ.mp (zO w).1 c (by cases c<;>first |exact .head _ |exact .tail _ (.head _) |exact .tail _ (.tail _ (.head _)) |exact .tail _ (.tail _ (.tail _ (.head _))))) x hx)
 FD x hx:=zP (cZ.mp (zO w).2 x hx)
theorem nJ.g(S:nJ w mg h)(e:gG lM x=some v):mg x=some v:=S.gl _ (gF e)
theorem nJ.n8(S:nJ w mg h)(hF:∀a o,(Aq h).get? a=some o->F.1 a=some o)(hm:lY.lookup a=some vs)(r:cG (gd w) F ds vs):VR (gd w) F (.tup ds) (.ref a):=⟨a,vs,0,rfl,hF _ _ (S.out (Je (sP hm))),r⟩
theorem jG(a:VR (gd w) F d u)(b:cG (gd w) F ds us):cG (gd w) F (d::ds) (u::us):=⟨u,us,rfl,a,b⟩
theorem Od(h1:VR (gd w) F a u)(h2:VR (gd w) F b v)(h3:VR (gd w) F c x)(h4:VR (gd w) F d y):cG (gd w) F [a,b,c,d] [u,v,x,y]:=jG h1 (jG h2 (jG h3 (jG h4 rfl)))
theorem uA(i:Int)(t:Tok):VR (gd w) F (.int i) (.int i t):=⟨t,rfl⟩
theorem JM(i:Str)(t:Tok):VR (gd w) F (.str i) (.str i t):=⟨t,rfl⟩
theorem RC(b:List UInt8)(t:Tok):VR (gd w) F (.bytes b) (.bytes b.toArray t):=⟨t,rfl⟩
variable{S T bm}
noncomputable def TP(i:Int)(v:Option Value):Bool:=match v with
 |some (.int j _)=>decide (j=i)
 |_=>false
theorem oJ(e:TP i (gG lM x)=true):mL (dU S T bm) x (.int i):=by
 cases q:gG lM x with
 |none=>rw[q]at e;cases e
 |some v=>
  rw[q]at e;cases v<;>first |(cases e;done) |skip
  cases iD e;exact⟨_,S.g q,λF Z=>uA _ _⟩
theorem Ie(e:uY i (gG lM x)=true):mL (dU S T bm) x (.str i):=by
 cases q:gG lM x with
 |none=>rw[q]at e;cases e
 |some v=>
  rw[q]at e;cases v<;>first |(cases e;done) |skip
  cases iU e;exact⟨_,S.g q,λF Z=>JM _ _⟩
theorem xE(e:gG lM x=some (.ref a))(hm:lY.lookup a=some vs)(k:∀F:FZ,(∀a o,(Aq h).get? a=some o->F.1 a=some o)->cG (gd w) F ds vs):mL (dU S T bm) x (.tup ds):=⟨_,S.g e,λF hF=>S.n8 hF hm (k F hF)⟩
theorem Ek:mL (dU S T bm) "PLACES_OF_FILES" (.tup [.str "Size", .str "Prev", .str "XRefStm"]):=xE (a:=409) (by kernel_rfl) rfl λF Z=>jG (JM _ _) (jG (JM _ _) (jG (JM _ _) rfl))
theorem Ih:mL (dU S T bm) "BEGIN" (.tup [.int 1732584193, .int 4023233417, .int 2562383102, .int 271733878]):=xE (a:=442) (by kernel_rfl) rfl λF Z=>Od (uA _ _) (uA _ _) (uA _ _) (uA _ _)
theorem Ig:mL (dU S T bm) "_law_names" (.tup [.bytes [97], .bytes [98], .bytes [97,98], .bytes [], .bytes [255]]):=xE (a:=724) (by kernel_rfl) rfl λF Z=>jG (RC _ _) (Od (RC _ _) (RC _ _) (RC _ _) (RC _ _))
theorem Ic:mL (dU S T bm) "TURNS" (.tup [.tup [.int 7, .int 12, .int 17, .int 22], .tup [.int 5, .int 9, .int 14, .int 20], .tup [.int 4, .int 11, .int 16, .int 23], .tup [.int 6, .int 10, .int 15, .int 21]]):=xE (a:=441) (by kernel_rfl) rfl λF hF=>
 Od (S.n8 hF (a:=437) rfl (Od (uA _ _) (uA _ _) (uA _ _) (uA _ _))) (S.n8 hF (a:=438) rfl (Od (uA _ _) (uA _ _) (uA _ _) (uA _ _))) (S.n8 hF (a:=439) rfl (Od (uA _ _) (uA _ _) (uA _ _) (uA _ _))) (S.n8 hF (a:=440) rfl (Od (uA _ _) (uA _ _) (uA _ _) (uA _ _)))
end
noncomputable def CL(l:List (Str×Pos×Pos×Pos×Pos)):List Stmt:=l.map λx=> .Assign [.Attribute (.Name "self" x.2.1) x.1 x.2.2.1] (.Name x.1 x.2.2.2.1) x.2.2.2.2
theorem zf{K:Frag}(hk:env.scope.kind= .function):∀{l:List (Str×Pos×Pos×Pos×Pos)}{vs:List Value},vs.length=l.length->(∀x ∈ l.map (λZ=>Z.1),IS K C x/\env.kindOf x=some .local/\(x==("__debug__":Str))=false)->
  (∀p ∈ (l.map (λZ=>Z.1)).zip vs,m p.1=some p.2)->qT w K C env m (CL l) ((l.map (λZ=>Z.1)).zip vs)
 | [],_,_,_,_=> .nil
 |x::l,[],h,_,_=>by cases h
 |x::l,v::vs,h,h1,h2=> .cons (h1 _ (.head _)).1 (AS hk (h1 _ (.head _)).2.1 (h1 _ (.head _)).2.2 (h2 (x.1,v) (.head _))) (l6 rfl) (zf hk (Nat.succ.inj h) (λy hy=>h1 y (.tail _ hy)) λp hp=>h2 p (.tail _ hp))
noncomputable def J5(K:Frag)(C:Addr)(x:Str):Bool:=decide (findIn K (.ref C) "__setattr__"=some (some (.builtin "object.__setattr__")))&&plainOver K C&&decide (takerIn K C x=some none)&&hasDictIn K C
theorem wz{K:Frag}(h:J5 K C x=true):IS K C x:=by
 unfold J5 at h;simp only[Bool.and_eq_true,decide_eq_true_eq]at h;exact⟨h.1.1.1,h.1.1.2,h.1.2,h.2⟩
noncomputable def Cz(K:Frag)(C fI:Addr):Bool:=makesIn K C&&decide (findIn K (.ref C) "__init__"=some (some (.ref fI)))&&decide (typeIn K (.ref fI)=some (.type "function"))
theorem yO{K:Frag}(h:Cz K C fI=true):xQ K C fI:=by
 unfold Cz at h;simp only[Bool.and_eq_true,decide_eq_true_eq]at h;exact⟨h.1.1,h.1.2,h.2⟩
noncomputable def VL(r:JF):Bool:=(kr r).names.all (λy=> !NameKind.M8 y.2 .cell)&&(oj r).all λy=>decide ((kr r).names.lookup y=some .local)&& !kR y "__debug__"
theorem AN(h:VL r=true):(∀y ∈ (kr r).names,y.2≠ .cell)/\∀y ∈ oj r,(kr r).names.lookup y=some .local/\(y==("__debug__":Str))=false:=by
 obtain⟨h1,h2⟩:=bA h;refine⟨λy hy e=> ?_,λy hy=> ?_⟩
 ·have:=cZ.mp h1 y hy;rw[e]at this;cases this
 ·obtain⟨a,b⟩:=bA (cZ.mp h2 y hy);refine⟨iD a,Av.mpr λe=> ?_⟩;rw[e,ku]at b;cases b
theorem LA(w:World):[(Cl.name,73),(.string,74),(.stream,75),(.reference,76)].all (λp=>Cz (KK w.params) (pO p.1) (fa p.2)&&(bJ p.1).all (J5 (KK w.params) (pO p.1))&&VL (dO p.2)&&decide (oj (dO p.2)=("self":Str)::bJ p.1))=true:=by kernel_rfl
noncomputable def EL:Cl->Nat
 | .name=>73
 | .string=>74
 | .stream=>75
 | .reference=>76
theorem qg{id:Nat}(h:Nat.blt id 80=true):dO id ∈ iN:=by
 have e:iN[id]? =some (dO id):=by
  unfold dO;rw[List.getD_eq_getElem?_getD,je (show id < iN.length from g7 h)]
  rfl
 exact vX e
theorem LB(c:Cl):∃l,(tK (dO (EL c)).2.1).2.2.1=CL l/\l.map (λZ=>Z.1)=bJ c:=by
 cases c
 ·exact⟨[(_,_,_,_,_)],rfl,rfl⟩
 ·exact⟨[(_,_,_,_,_),(_,_,_,_,_)],rfl,rfl⟩
 ·exact⟨[(_,_,_,_,_),(_,_,_,_,_)],rfl,rfl⟩
 ·exact⟨[(_,_,_,_,_),(_,_,_,_,_)],rfl,rfl⟩
theorem Qo(c:Cl):(bJ c).Nodup/\(bJ c).length<=1000/\(("self":Str)::bJ c).Nodup:=by cases c<;>exact⟨by decide+kernel,by decide,by decide+kernel⟩
section
variable{w:World}{mg mb:Str->Option Value}{h:Heap}{S:nJ w mg h}{T:TopRead qV (looseW qV gh) mg mb h}{bm:qW mg h}
theorem MP(c:Cl){fW:List D}(hd:fT=[]\/fT=zD (dO (EL c)))(hv:∀F,cG (gd w) F fW fT):kQ (dU S T bm) 4 (.ref (pO c)) (CQ c (bJ c).length fW):=by
 have k:=cZ.mp (LA w) (c,EL c) (by cases c<;>first |exact .head _ |exact .tail _ (.head _) |exact .tail _ (.tail _ (.head _)) |exact .tail _ (.tail _ (.tail _ (.head _))));refine cps λPP kk=> ?_;obtain⟨k,k4⟩:=bA k;obtain⟨k,k3⟩:=bA k;obtain⟨k1,k2⟩:=bA k;obtain⟨n1,n2⟩:=AN k3;have k4:oj (dO (EL c))=("self":Str)::bJ c:=iD k4;obtain⟨nd,nz,KD⟩:=Qo c;obtain⟨l,hb,hl⟩:=LB c;refine kk ?_;clear kk;have Z:=GQ S (qg (id:=EL c) (by cases c<;>rfl)) hd hv;rw[k4]at Z n2;refine IV (yO k1) Z n1 (λy hy=>(n2 y hy).1) KD rfl nz nd λL x us hu=> ?_;have kd:(kr (dO (EL c))).kind= .function:=Z.kind;have z:=zf (w:=w) (K:=KK w.params) (C:=pO c) (env:=envX (dO (EL c)).2.2.1 (kr (dO (EL c))) L (dO (EL c)).1 (.ref ((dO (EL c)).1 - 1)) []) (m:=λy=>(((("self":Str)::bJ c).zip (x::(us++fT))).reverse.lookup y)) kd (l:=l) (vs:=us++fT) (by
   rw[dJ,hu, <-hl,cO]) (λy hy=>by
   rw[hl]at hy;exact⟨wz (cZ.mp k2 y hy),n2 y (.tail _ hy)⟩) λp hp=>by
   rw[hl]at hp;refine qM ?_ (List.mem_reverse.mpr (.tail _ hp));rw[List.map_reverse];refine(List.reverse_perm _).nodup_iff.mpr ?_;rw[List.map_fst_zip (by rw[jS,jS,dJ,hu];exact Nat.le_refl _)];exact KD
 rw[hl]at z;rw[hb];exact z
theorem PS(c:Cl)(hk:(bJ c).length=k)(hd:fT=[]\/fT=zD (dO (EL c)))(hv:∀F,cG (gd w) F fW fT):kQ (dU S T bm) 4 (.ref (pO c)) (jZ c k fW):=λA s objs F ρ X Q E args us R X' S' W P=>by
 subst hk;unfold jZ at P;split at P
 ·exact MP c (fW:=[]) (fT:=[]) (.inl rfl) (λF=>rfl) A s objs F ρ X Q E args us R X' S' W P
 ·exact MP c hd hv A s objs F ρ X Q E args us R X' S' W P
end
theorem DM(w:World):(Cz (KK w.params) 406 (fa 77)&&[("table":Str),"trailer"].all (J5 (KK w.params) 406)&&VL (dO 77)&&decide (oj (dO 77)=[("self":Str),"table","trailer"]))=true:=by kernel_rfl
theorem AK:∃a1 a2 a3 a4 a5 a6 a7 a8 k a9 b1 b2 b3 b4 b5 b6 b7 b8 j b9,(tK (dO 77).2.1).2.2.1=[
  .Assign [.Attribute (.Name "self" a1) "table" a2] (.IfExp (.Compare (.Name "table" a3) [.Is] [.Constant .none k a4] a5) (.Dict [] [] a6) (.Name "table" a7) a8) a9,
  .Assign [.Attribute (.Name "self" b1) "trailer" b2] (.IfExp (.Compare (.Name "trailer" b3) [.Is] [.Constant .none j b4] b5) (.Dict [] [] b6) (.Name "trailer" b7) b8) b9]:=⟨_,_,_,_,_,_,_,_,_,_,_,_,_,_,_,_,_,_,_,_,rfl⟩
theorem EZ:∃p1 p2 p3 p4 p5 p6 p7 p8 p9 yI Ai Ah yH yG,(tK (dO 78).2.1).2.2.1=E4 p1 p2 p3 p4 p5 p6 p7 p8 p9 yI Ai Ah yH yG/\qp (.Name "Exception" p1) [.Name "self" p3, .Name "what" p4] p2 p5=true:=⟨_,_,_,_,_,_,_,_,_,_,_,_,_,_,rfl,by kernel_rfl⟩
theorem Fe:∃k1 k2 k3 p1 p2 p3 p4 p5 p6 p7 p8 p9 yI Ai Ah yH yG Jw Kp Ko F7 F6,(tK (dO 79).2.1).2.2.1=B9 k1 k2 k3 p1 p2 p3 p4 p5 p6 p7 p8 p9 yI Ai Ah yH yG Jw Kp Ko F7 F6:=⟨_,_,_,_,_,_,_,_,_,_,_,_,_,_,_,_,_,_,_,_,_,_,rfl⟩
theorem Bu(P:Params)(x:Ex):∃z,(KK P).lookup (j4 x)=some (qZ z (j4 x) 46):=by
 cases x
 ·exact⟨⟨_,_,_,_,_,_,_,_,_,_,_,_,_,_,_⟩,rfl⟩
 ·exact⟨⟨_,_,_,_,_,_,_,_,_,_,_,_,_,_,_⟩,rfl⟩
noncomputable def ZR(K:Frag)(C fI:Addr):Bool:=(clsIn K C).any (λcd=>cd.hasDict&&decide (cd.mro= .ref C::i8 46))&&decide (findIn K (.ref C) "__setattr__"=some (some (.builtin "object.__setattr__")))&&decide (findIn K (.ref C) "what"=some none)&&decide (findIn K (.ref C) "at"=some none)
 &&decide (findIn K (.ref C) "__init__"=some (some (.ref fI)))&&keepIn K (.ref C)
theorem Qe(w:World):[71,83].all (λC=>ZR (KK w.params) C 36)=true:=by kernel_rfl
theorem EX:(VL (dO 78)&&decide (oj (dO 78)=[("self":Str),"what","at"])&&decide ((kr (dO 78)).names.lookup ("Exception":Str)=some .globalImplicit))=true:=by kernel_rfl
theorem E8:((kr (dO 79)).names.all (λy=> !NameKind.M8 y.2 .cell)&&decide (oj (dO 79)=[("work":Str)])&&decide ((kr (dO 79)).names.lookup ("work":Str)=some .local)&&decide ((kr (dO 79)).names.lookup ("caught":Str)=some .local)&&decide ((kr (dO 79)).names.lookup ("TreeFault":Str)=some .globalImplicit)&&decide ((kr (dO 79)).names.lookup ("DraftFault":Str)=some .globalImplicit))=true:=by kernel_rfl
theorem Qd(P:Params):findCls (KK P) (.type "Exception") (.type "type") "__init__"=some (.val (.builtin "Exception.__init__")):=by kernel_rfl
section
variable{w:World}{mg mb:Str->Option Value}{h:Heap}{S:nJ w mg h}{T:TopRead qV (looseW qV gh) mg mb h}{bm:qW mg h}
theorem Fz:kQ (dU S T bm) 4 (.ref 406) (i7 mz):=by
 have k:=DM w;refine cps λPP kk=> ?_;obtain⟨k,k4⟩:=bA k;obtain⟨k,k3⟩:=bA k;obtain⟨k1,k2⟩:=bA k;obtain⟨n1,n2⟩:=AN k3;refine kk ?_;clear kk;have k4:oj (dO 77)=[("self":Str),"table","trailer"]:=iD k4;have Z:=GQ S (qg (id:=77) rfl) (fW:=[]) (fT:=[]) (.inl rfl) (λF=>rfl);rw[k4]at Z n2;refine cps λPP kk=> ?_;obtain⟨a1,a2,a3,a4,a5,a6,a7,a8,k,a9,b1,b2,b3,b4,b5,b6,b7,b8,j,b9,hb⟩:=AK;refine kk ?_;clear kk;have q1:=n2 "table" (.tail _ (.head _));have q2:=n2 "trailer" (.tail _ (.tail _ (.head _)));have kd:(kr (dO 77)).kind= .function:=Z.kind;refine Mb.fn (IW (N:=2) (yO k1) Z n1 (λy hy=>(n2 y hy).1) λL x a b i1 i2 i3 i4=> ?_);rw[hb];exact .cons (wz (cZ.mp k2 _ (.head _))) (yz kd q1.1 q1.2 rfl i1 i2) (l6 rfl) (.cons (wz (cZ.mp k2 _ (.tail _ (.head _)))) (yz kd q2.1 q2.2 rfl i3 i4) (l6 rfl) .nil)
theorem Bt(x:Ex)(nE:mg "Exception"=none):Jr (KK w.params) mg (j4 x) 46 36/\keepIn (KK w.params) (.ref (j4 x))=true:=by
 have k:=cZ.mp (Qe w) (j4 x) (by cases x<;>first |exact .head _ |exact .tail _ (.head _));unfold ZR at k;simp only[Bool.and_eq_true,decide_eq_true_eq,Option.any_eq_true]at k;refine cps λPP kk=> ?_;obtain⟨⟨⟨⟨⟨⟨cd,c1,c2,c3⟩,k2⟩,k3⟩,k4⟩,k5⟩,k6⟩:=k;refine kk ?_;clear kk;exact⟨⟨⟨cd,c1,c2,c3⟩,Bu _ x,k2,k3,k4,k5,Qd _,nE⟩,k6⟩
theorem EY(x:Ex)(nE:mg "Exception"=none):vQ (dU S T bm) 4 (j4 x):=λA s F ρ objs X Q E u R SS hQ=>by
 have k:=EX;obtain⟨k,k3⟩:=bA k;obtain⟨k1,k2⟩:=bA k;obtain⟨n1,n2⟩:=AN k1;have k2:oj (dO 78)=[("self":Str),"what","at"]:=iD k2;have Z:=GQ S (qg (id:=78) rfl) (fW:=[.int (-1)]) (fT:=[.int (-1) 209]) (.inr (by kernel_rfl)) (λF=>⟨_,_,rfl,⟨_,rfl⟩,rfl⟩);rw[k2]at Z n2;refine cps λPP kk=> ?_;obtain⟨p1,p2,p3,p4,p5,p6,p7,p8,p9,yI,Ai,Ah,yH,yG,hb,hm⟩:=EZ;refine kk ?_;clear kk;rw[hb]at Z;exact N8 (N:=2) (Fa:=dU S T bm) (Bt x nE).1 Z ⟨_,S.out (NZ (qg (id:=78) rfl)),rfl⟩ n1 (λy hy=>(n2 y hy).1) (iD k3) (λenv=>wR hm) R SS hQ
theorem xok(S':nJ w mg h):We (dU S' T bm)where
 o1:=let⟨z,e⟩:=Bu w.params .tree;⟨z,_,e⟩
 o2:=let⟨z,e⟩:=Bu w.params .i_;⟨z,_,e,by kernel_rfl⟩
 m1:=S'.g (by kernel_rfl)
 m2:=S'.g (by kernel_rfl)
theorem E9:xM (dU S T bm) "_law_refused":=by
 have k:=E8;simp only[Bool.and_eq_true,decide_eq_true_eq]at k;refine cps λPP kk=> ?_;obtain⟨⟨⟨⟨⟨k1,k2⟩,k3⟩,k4⟩,k5⟩,k6⟩:=k;refine kk ?_;clear kk;have Z:=GQ S (qg (id:=79) rfl) (fW:=[]) (fT:=[]) (.inl rfl) (λF=>rfl);rw[k2]at Z;refine cps λPP kk=> ?_;obtain⟨k1',k2',k3',p1,p2,p3,p4,p5,p6,p7,p8,p9,yI,Ai,Ah,yH,yG,Jw,Kp,Ko,F7,F6,hb⟩:=Fe;refine kk ?_;clear kk;rw[hb]at Z;exact⟨_,_,_,_,_,_,_,_,_,_,_,_,_,_,_,_,_,_,_,_,_,_,_,_,_,_,_,xok S,S.g (by kernel_rfl),cZ.mp (za w.params) _ (qg (id:=79) rfl),Z,⟨Z.kind,k3,k4,k5,k6⟩,λy hy e=>by
  have:=cZ.mp k1 y hy;rw[e]at this;cases this⟩
end
theorem Sv:("Exception":Str) ∉ startupNames/\("Exception":Str) ∉ looseW qV gh/\("Exception":Str) ∉ (recsOf qV).map (λZ=>Z.name)/\("Exception":Str) ∉ (litsOf qV).map (λZ=>Z.1)/\("Exception":Str) ∉ (clssOf qV (looseW qV gh)).map (λZ=>Z.name):=by decide+kernel
theorem tE{P:α->Prop}(h:P p)(k:∀x ∈ l,P x):∀x ∈ p::l,P x:=List.forall_mem_cons.mpr ⟨h,k⟩
theorem Li:Ub.all (λZ=>Z.2.isFn)=true:=by kernel_rfl
section
variable{w:World}{mg mb:Str->Option Value}{h:Heap}(S:nJ w mg h)(T:TopRead qV (looseW qV gh) mg mb h)(bm:qW mg h)
include T in
theorem nE:mg "Exception"=none:=let⟨a,b,c,d,e⟩:=Sv;T.free _ a b c d e
theorem Kq:∀p ∈ Nm,Jj (dU S T bm) 179 4 (λZ Z Z=> .stuck) p.1 p.2:=by
 have ex:∀x:Ex,∀n:Str,mg n=some (.ref (j4 x))->Jq (dU S T bm) 4 n x:=λx n e=>⟨_,_,(Bt x (nE T)).1,EY x (nE T),(Bt (w:=w) x (nE T)).2,e⟩;have cl:∀(c:Cl)(n:Str)(k:Nat)(fW:List D)(fT:List Value),(bJ c).length=k->(fT=[]\/fT=zD (dO (EL c)))->(∀F,cG (gd w) F fW fT)->mg n=some (.ref (pO c))->keepIn (KK w.params) (.ref (pO c))=true->FnAt (dU S T bm) 4 n (jZ c k fW)/\mg n=some (.ref (pO c)):=
  λc n k fW fT h1 h2 h3 h4 h5=>⟨⟨_,h4,qS h5,PS c h1 h2 h3⟩,h4⟩
 refine tE ⟨_,S.g (v:= .ref 752) (by kernel_rfl),λF Z=>rfl⟩ (tE (oJ (by kernel_rfl)) (tE Ek (tE (oJ (by kernel_rfl)) (tE (oJ (by kernel_rfl)) (tE Ic (tE Ih ?_))))));refine tE (oJ (by kernel_rfl)) (tE (oJ (by kernel_rfl)) (tE (Ie (by kernel_rfl)) (tE (Ie (by kernel_rfl)) (tE (oJ (by kernel_rfl)) (tE (oJ (by kernel_rfl)) (tE Ig ?_))))));refine tE (cl .name _ _ [] [] rfl (.inl rfl) (λF=>rfl) (S.g (by kernel_rfl)) (by kernel_rfl)) (tE (cl .string _ _ [.bool false] [.bool false] rfl (.inr (by kernel_rfl)) (λF=>⟨_,_,rfl,rfl,rfl⟩) (S.g (by kernel_rfl)) (by kernel_rfl)) ?_);refine tE (cl .stream _ _ [] [] rfl (.inl rfl) (λF=>rfl) (S.g (by kernel_rfl)) (by kernel_rfl)) (tE (cl .reference _ _ [] [] rfl (.inl rfl) (λF=>rfl) (S.g (by kernel_rfl)) (by kernel_rfl)) ?_);refine tE ⟨_,S.g (v:= .ref 406) (by kernel_rfl),qS (by kernel_rfl),Fz⟩ (tE (ex .tree _ (S.g (by kernel_rfl))) (tE (ex .i_ _ (S.g (by kernel_rfl))) (tE E9 (tE (S.g (v:= .ref 179) (by kernel_rfl)) λx hx=>nomatch hx))))
theorem RK:zU (dU S T bm) 179 fa where
 cls:=El S T bm
 MT id f hf:=Ui S T bm hf
 keep id f hf:=cZ.mp (za w.params) _ (Cf hf).1
 ZH x id hm:=by
  obtain⟨a,b⟩:=bA (show(decide (gG lM x=some (.ref (fa id)))&&(Am[id]?).isSome)=true from cZ.mp Le _ hm);exact⟨S.g (iD a),kq.mp b⟩
 xV p hp hn:=Kq S T bm p ((gU.mp hp).resolve_left λq=>by
  have:=cZ.mp Li p q;rw[hn]at this;cases this)
 blt p hp:=by
  obtain⟨a,b⟩:=bA (cZ.mp LK p hp);exact⟨S.bl p hp,iD a,iD b⟩
 mY p hp:=by
  obtain⟨a,b⟩:=bA (cZ.mp (KG w) p hp);obtain⟨a,c⟩:=bA a;exact⟨Cw a,iD c,kq.mp b⟩
 pair:=⟨Cw (F5 w),by decide+kernel,_,rfl⟩
 plain k:=⟨by kernel_rfl,_,rfl⟩
end
noncomputable abbrev LW:OpenLaw:=PySem.Challenge.rw_qz0084_01
theorem SQ:LeftO PR qV gh (λs=>Wc s) Kv JN 6000:=KU (by decide+kernel) J8
section
variable{w:World}{h:Heap}
theorem Fv(ht:∀P ∈ [618,790],h.get? P=some (tabObj #[])):SR (gd w) (Aq h) ((Aq h).get?,λZ=>none) [618,790] [.tab 0, .tab 1] [] h where
 base _ _ e:=e
 stays _ _ e:=of_hideAll _ e
 len:=rfl
 obj i x e n:=by
  have ok:∀j,EB (gd w) ((Aq h).get?,λZ=>none) ((gd w).nt j) j (tabObj #[]):=λj=>⟨rfl, #[],rfl,trivial,λpos cv e=>nomatch e⟩;rcases i with _ |_ |i
  ·cases e;exact⟨618,tabObj #[],rfl,ht _ (.head _),hideAll_none _ (.head _),ok 0⟩
  ·cases e;exact⟨790,tabObj #[],rfl,ht _ (.tail _ (.head _)),hideAll_none _ (.tail _ (.head _)),ok 1⟩
  ·cases e
 inj i j x y a e1 n1 e2 n2 r1 r2:=by
  rcases i with _ |_ |i<;>rcases j with _ |_ |j<;>first |rfl |(injection e1;done) |(injection e2;done) |exact absurd (r1.trans r2.symm) (by decide)
 jw p hp:=nomatch hp
 apart p hp:=nomatch hp
 nodup:= .nil
end
theorem B8(S2:SR (gd w) ah F' ρ' [.tab 0, .tab 1] [] h'):∀P ∈ [618,790],∃ps,h'.get? P=some (tabObj ps):=λP hP=>by
 rcases cN.mp hP with q |q
 ·subst q;exact(S2.obj 0 _ rfl (λq=>aH.noConfusion q)).rec λa o h1 h2 h3 r=>r.rec λe ps q Z=>⟨ps,by subst e;rw[<-q];exact h2⟩
 ·cases dQ.mp q;exact(S2.obj 1 _ rfl (λq=>aH.noConfusion q)).rec λa o h1 h2 h3 r=>r.rec λe ps q Z=>⟨ps,by subst e;rw[<-q];exact h2⟩
theorem OV(h:LW.row.toRowW.claim.pre args=true):∃xs:List Int,args=[.list (xs.map .int)]/\xs.length<=63:=by
 obtain⟨h1,h2⟩:=pre_splitW h;obtain⟨d,r,rfl,hd,hr⟩:=hasAllW_cons (e:= .list .int) (es:=[]) h1;cases hasAllW_nil hr;obtain⟨xs,rfl,hi⟩:=hasW_list hd;have hx:∃ys:List Int,xs=ys.map .int:=by
  clear h h1 h2 hd hr
  induction xs with
  |nil=>exact⟨[],rfl⟩
  |cons x xs ih=>
   obtain⟨a,b⟩:=bA (show(WShape.has _ x .int&&WShape.hasItems _ xs .int)=true from hi);obtain⟨i,rfl⟩:=hasW_int a;obtain⟨ys,rfl⟩:=ih b;exact⟨i::ys,rfl⟩
 clear hi hd h1 h;obtain⟨ys,rfl⟩:=hx;refine⟨ys,rfl, ?_⟩;have h2:WTm.holds [] (.and (.not (.lt (.lit (.int 63)) (.len (.arg 0)))) (.lit (.bool true))) {args:=[.list (ys.map .int)]}=true:=h2;have e:less? (.int 63) (.int (ys.map WData.int).length)=some (decide ((63:Int) < (ys.map WData.int).length)):=rfl
 by_cases hn:(63:Int) < (ys.map WData.int).length
 ·rw[cM hn]at e;have h3:(match(match(match(less? (.int 63) (.int (ys.map WData.int).length)).map WData.bool with
    |some (.bool b)=>some (WData.bool !b)
    |_=>none)with
   |some (WData.bool false)=>some (WData.bool false)
   |some (WData.bool true)=>some (WData.bool true)
   |_=>none)with
   |some (WData.bool true)=>true
   |_=>false)=true:=h2
  rw[e]at h3;cases h3
 ·rw[cO]at hn;exact pZ.mp (Int.not_lt.mp hn)
theorem B3:∀{xs:List Int}{vs:List Value},WellAll P h vs (xs.map .int)->cG (gd w) F (xs.map .int) vs
 | [],_,h=>by cases h;rfl
 |x::xs,_,h=>by cases h with |cons a b=>cases a;exact⟨_,_,rfl,⟨_,rfl⟩,B3 b⟩
theorem H_(S:nJ w mg h):∀P ∈ [618,790],isCodeTable h P:=λP hP=>by
 rcases cN.mp hP with q |q
 ·subst q;exact⟨620,_,_,S.vz 620 _ (by rfl),rfl,rfl,rfl⟩
 ·cases dQ.mp q;exact⟨792,_,_,S.vz 792 _ (by rfl),rfl,rfl,rfl⟩
theorem head(plain:∀l:List Int,l.length<=63->run 40 63 [.d (.list (l.map .int))] [.tab 0, .tab 1]= .ok (.d (.bool true)) [.tab 0, .tab 1])(said:LW.row.wellSaid=true):LW.row.Holds:=by
 refine holds_open (r:=LW.row) (q:=qV) (loose:=gh) (Xt:=Wc) (XP:=NQ) (Yf:=Kv) (Ya:=JN) (YP:=HT.says) (N:=6000) SQ HT.of HT.keeps NQ.of NQ.keeps (by rfl) (by rfl) (by rfl) (λs e=> ?_) (by rfl) said (by decide+kernel) ⟨rfl,rfl,rfl,rfl,rfl,by decide+kernel⟩ ⟨[.list []],by decide+kernel,by decide+kernel⟩ ?_
 ·exact recFacts_of (by rfl)
 ·intro w s₀ s₁ mg mb G Y a o pm cd doc dV kV ho hd hcd hD hmg hg args vals as hpre hlay hrd hwl hlo;obtain⟨xs,rfl,hlen⟩:=OV hpre;obtain⟨v,vs',rfl,rfl⟩:∃v vs',vals=v::vs'/\vs'=[]:=by
   cases hwl with |cons a b=>cases b;exact⟨_,_,rfl,rfl⟩
  have X:=G.X;have S:nJ w mg s₁.heap:=⟨Y.1,Y.2,X.gl,X.cd,X.bl,X.sm⟩;have T:=topRead_of G.T;have bm:qW mg s₁.heap:=G.T.bmain;have TA:=RK S T bm;have C:=ON TA 40;have ea:a=793:=by
   have e:=S.g (x:="law") (v:= .ref 793) (by kernel_rfl);exact Value.ref.inj (iQ (hmg.symm.trans e))
  subst ea;cases hwl with |cons hv hn=>
  cases hv with |list hl hw=>
  cases hn;have YN:fa 63=793:=by kernel_rfl
  refine YN▸C 63 _ rfl callerA s₁ [.tab 0, .tab 1] ((Aq s₁.heap).get?,λZ=>none) [618,790] [] _ _ [.d (.list (xs.map .int))] _ ⟨rfl,by decide,by decide,rfl⟩ ⟨[],rfl,λZ h=>nomatch h⟩ (Fv S.tab) ⟨_,_,rfl,⟨_,_,0,rfl,nR _ hl λq=> ?_,B3 hw⟩,rfl⟩ ?_
  ·cases(S.tab _ q).symm.trans hl
  rw[plain xs hlen];intro u F' ρ' h' tk sb pr S2 wu;cases wu;refine⟨.inl ⟨_, .bool true,[],rfl,λZ=>rfl, .bool true,Bool.and_eq_true_iff.mpr ⟨rfl,by show(match some (WData.bool (same (.bool true) (.bool true)))with |some (WData.bool true)=>true |_=>false)=true;rw[show same (.bool true) (.bool true)=true from by decide+kernel]⟩,λZ=>⟨.nil,λZ h=>nomatch h⟩⟩,⟨λb o e=> ?_,λb o e=> ?_⟩,rfl,AllBare.of_eq hg⟩
  ·by_cases hb:b ∈ Hy
   ·obtain⟨ps,e'⟩:=B8 S2 b hb;cases(S.tab _ hb).symm.trans e;exact .inr (.inl ⟨H_ S b hb,rfl, #[],ps,rfl,e'.trans (by rw[Array.empty_append])⟩)
   ·exact .inl (S2.stays _ _ (S2.base _ _ (nR _ e hb)))
  ·by_cases hb:b ∈ Hy
   ·obtain⟨ps,e'⟩:=B8 S2 b hb;exact⟨_,e'⟩
   ·exact⟨_,S2.stays _ _ (S2.base _ _ (nR _ e hb))⟩
theorem J7:LW.wellSaid=true:=by
 show OpenLaw.wellSaid PySem.Challenge.rw_qz0084_01=true;rw[PySem.W.Fast.te9446332074065402090]
 kernel_rfl
theorem HB(plain:∀l:List Int,l.length<=63->run 40 63 [.d (.list (l.map .int))] [.tab 0, .tab 1]= .ok (.d (.bool true)) [.tab 0, .tab 1]):LW.Holds:=holds_law J7 λsaid=>head plain said
theorem aG.int.inj{a b:Int}(h:aG.int a=aG.int b):a=b:=by injection h
theorem aG.bytes.inj{a b:List UInt8}(h:aG.bytes a=aG.bytes b):a=b:=by injection h
theorem D.bytes.inj{a b:List UInt8}(h:D.bytes a=D.bytes b):a=b:=by injection h
theorem D.tup.inj{a b:List D}(h:D.tup a=D.tup b):a=b:=by injection h
theorem D.int.inj{a b:Int}(h:D.int a=D.int b):a=b:=by injection h
noncomputable abbrev b0(c:aD):DS:=(ao (dw (aE Lx (af 0) (ai (.none))) (ao (aX (ai (.str "null"))) av) av) (ao (dw (dG (fz .bool (af 0))) (ao (aX (ai (.str "truth"))) av) av) (ao (dw (dG (fz .int (af 0))) (ao (aX (ai (.str "int"))) av) av) (ao (dw (dG (fz .dec (af 0))) (ao (aX (ai (.str "real"))) av) av) (ao (dw (dG (fz (.cls .name) (af 0))) (ao (aX (ai (.str "name"))) av) av) (ao (dw (dG (fz (.cls .string) (af 0))) (ao (aX (ai (.str "string"))) av) av) (ao (dw (dG (fz .list (af 0))) (ao (aX (ai (.str "array"))) av) av) (ao (dw (dG (fz .dict (af 0))) (ao (aX (ai (.str "dict"))) av) av) (ao (dw (dG (fz (.cls .stream) (af 0))) (ao (aX (ai (.str "stream"))) av) av) (ao (dw (dG (fz (.cls .reference) (af 0))) (ao (aX (ai (.str "ref"))) av) av) (ao Bx av)))))))))))
noncomputable abbrev b1(c:aD):DS:=(ao (dw (aE gi (af 0) (ai (.str "null"))) (ao (aX (cB (aa (ai (.str "null")) ak))) av) av) (ao (dw (aE gi (af 0) (ai (.str "truth"))) (ao (aX (cB (aa (ai (.str "truth")) (aa (eW (dG (af 1)) (ai (.int 1)) (ai (.int 0))) ak)))) av) av) (ao (dw (aE gi (af 0) (ai (.str "int"))) (ao (aX (cB (aa (ai (.str "int")) (aa (af 1) ak)))) av) av) (ao (dw (aE gi (af 0) (ai (.str "real"))) (ao (aX (cB (aa (ai (.str "real")) (aa (bq "top" (af 1)) (aa (bq "places" (af 1)) ak))))) av) av) (ao (dw (aE gi (af 0) (ai (.str "name"))) (ao (aX (cB (aa (ai (.str "name")) (aa (bq "text" (af 1)) ak)))) av) av) (ao (dw (aE gi (af 0) (ai (.str "string"))) (ao (aX (cB (aa (ai (.str "string")) (aa (aq (bB j0) (aa (bq "octets" (af 1)) ak)) ak)))) av) av) (ao (aX (cB (aa (ai (.str "ref")) (aa (bq "number" (af 1)) (aa (bq "generation" (af 1)) ak))))) av)))))))
noncomputable abbrev b2(c:aD):DS:=(ao (ay 1 (aq (c 0) (aa (af 0) ak))) (ao (dw (aE gi (af 1) (ai (.str "array"))) (ao (aX (aB cF (cB (aa (ai (.str "array")) ak)) (aq (bB oF) (aa (a_ [2,3] (bH (af 0)) (aU 3) bN (gu (aq (c 2) (aa (af 3) ak))) [] bh) ak)))) av) av) (ao (dw (aE gi (af 1) (ai (.str "dict"))) (ao (aX (aB cF (cB (aa (ai (.str "dict")) ak)) (aq (bB oF) (aa (a_ [2,3] (bH (aq (bB c_) (aa (af 0) ak))) (aU 3) (aE iZ (aB aC (af 0) (af 3)) (ai (.none))) (gu (cB (aa (af 3) (aa (aq (c 2) (aa (aB aC (af 0) (af 3)) ak)) ak)))) [] bh) ak)))) av) av) (ao (dw (aE gi (af 1) (ai (.str "stream"))) (ao (aX (cB (aa (ai (.str "stream")) (aa (aq (c 2) (aa (bq "head" (af 0)) ak)) (aa (aq (bB j0) (aa (bq "octets" (af 0)) ak)) ak))))) av) av) (ao (aX (aq (c 1) (aa (af 1) (aa (af 0) ak)))) av)))))
noncomputable abbrev b3(c:aD):DS:=(ao (ay 1 (aq (c 0) (aa (af 0) ak))) (ao (dw (aE gi (af 1) (ai (.str "array"))) (ao (aX (aq (bB zv) (aa (af 0) ak))) av) av) (ao (dw (aE gi (af 1) (ai (.str "dict"))) (ao (aX (a_ [2,3] (bH (aq (bB c_) (aa (af 0) ak))) (aU 3) bN (gu (aB aC (af 0) (af 3))) [] bh)) av) av) (ao (dw (aE gi (af 1) (ai (.str "stream"))) (ao (aX (aq (c 3) (aa (bq "head" (af 0)) ak))) av) av) (ao (aX (d8 false ak)) av)))))
noncomputable abbrev Td(c:aD):DS:=(ao (ay 4 (aO nu (bB Br) (af 3) ak)) (ao (dw (dG (fz (.cls .reference) (af 4))) (ao (dw (aE dX (aO vD (c 72) (af 4) ak) (af 2)) (ao (iu (ai (.bool true)) (af 2) (aO vD (c 72) (af 4) ak)) (ao (cU (aO nu (i7 fG) (af 1) (aa (aO vD (c 72) (af 4) ak) ak))) av)) av) av) (ao (cU (aO nu (i7 jL) (af 3) (aa (aq (bB m8) (aa (aq (c 3) (aa (af 4) ak)) ak)) ak))) av)) av))
noncomputable abbrev b4(c:aD):DS:=(ao (ay 1 (d8 true ak)) (ao (ay 2 (dh true (.bO []))) (ao (ay 3 (d8 true (aa (af 0) ak))) (ao (eB (dG (af 3)) (Td c) 400) (ao (aX (af 1)) av)))))
noncomputable abbrev b5(c:aD):DS:=(ao (dN (jE [2,3]) (af 1)) (ao (aX (tM (aB uK (af 2) (bq "table" (af 0))) (aB gi (aB aC (aB aC (bq "table" (af 0)) (af 2)) (ai (.int 0))) (af 3)))) av))
noncomputable abbrev b6(c:aD):DS:=(ao (aX (aq (bB (gw false (.dict .ks []))) (aa (a_ [1,2] (bH (bq "trailer" (af 0))) (aU 2) (aE dX (af 2) (ai (.tup [.str "Size", .str "Prev", .str "XRefStm"]))) (gu (cB (aa (af 2) (aa (aB aC (bq "trailer" (af 0)) (af 2)) ak)))) [] bh) ak))) av)
noncomputable abbrev S_(c:aD):DS:=(ao (dw (gS (aE dX (af 2) (af 4)) (gS (dG (aq (c 5) (aa (af 0) (aa (af 2) ak)))) bN)) (ao (iu (ai (.bool true)) (af 4) (af 2)) (ao (cU (aO nu (i7 fG) (af 3) (aa (af 2) ak))) av)) av) av)
noncomputable abbrev SY(c:aD):DS:=(ao (kN (bH (aq (c 4) (aa (aB aC (aB aC (bq "table" (af 0)) (aB aC (aB aC (af 3) (af 5)) (ai (.int 0)))) (ai (.int 1))) ak))) (aU 2) (S_ c)) (ao (ay 5 (aB cF (af 5) (ai (.int 1)))) av))
noncomputable abbrev b7(c:aD):DS:=(ao (ay 3 (a_ [6,7] (bH (aq (c 4) (aa (af 1) ak))) (aU 7) (dG (aq (c 5) (aa (af 0) (aa (af 7) ak)))) (gu (af 7)) [] zm)) (ao (ay 4 (aq (bB (gw true (.bO []))) (aa (a_ [6,7] (bH (af 3)) (aU 7) bN (gu (cB (aa (af 7) (aa (ai (.bool true)) ak)))) [] bh) ak))) (ao (ay 5 (ai (.int 0))) (ao (eB (aE uJ (af 5) (aq (bB dj) (aa (af 3) ak))) (SY c) 100) (ao (aX (af 3)) av)))))
noncomputable abbrev b8(c:aD):DS:=(ao (aX (aq (bB c_) (aa (a_ [2,3] (bH (aq (c 7) (aa (af 0) (aa (af 1) ak)))) (aU 3) bN (gu (aB aC (af 3) (ai (.int 0)))) [] bh) ak))) av)
noncomputable abbrev b9(c:aD):DS:=(ao (ay 1 (aq (bB (gw false (.dict .ki []))) (aa (a_ [2,3] (bH (aq (c 8) (aa (af 0) (aa (aq (c 6) (aa (af 0) ak)) ak)))) (aU 3) bN (gu (cB (aa (af 3) (aa (ai (.bool true)) ak)))) [] bh) ak))) (ao (aX (a_ [2,3] (bH (aO aI (c 69) (af 0) ak)) (aU 3) (aE dX (af 3) (af 1)) (gu (af 3)) [] bh)) av))
noncomputable abbrev Tq(c:aD):DS:=(ao (dw (aE gi (aB jj (af 3) (ai (.int 4))) (ai (.int 0))) (ao (ay 1 (aB cF (af 1) (af 2))) av) (ao (dw (aE gi (aB jj (af 3) (ai (.int 4))) (ai (.int 1))) (ao (ay 0 (aB cF (af 0) (af 2))) av) (ao (dw (aE gi (aB jj (af 3) (ai (.int 4))) (ai (.int 2))) (ao (ay 1 (aB j6 (af 1) (af 2))) av) (ao (ay 0 (aB j6 (af 0) (af 2))) av)) av)) av)) (ao (ay 2 (aB j7 (af 2) (aB cF (af 3) (ai (.int 1))))) av))
noncomputable abbrev b10(c:aD):DS:=(ao (ay 0 (ai (.int 0))) (ao (ay 1 (ai (.int 0))) (ao (ay 2 (ai (.int (10 ^ 60)))) (ao (kN (eE (aa (ai (.int 60)) ak)) (aU 3) (Tq c)) (ao (aX (cB (aa (af 0) (aa (af 1) ak)))) av)))))
noncomputable abbrev Tp(c:aD):DS:=(ao (cU (aO nu (i7 fG) (af 4) (aa (aB j7 (aB iY (aq (bB zx) (aa (af 2) ak)) (ai (.int 4294967296))) (ai (.int (10 ^ 60)))) ak))) (ao (dN (tV [2,3]) (cB (aa (aB j7 (aB cF (aB iY (af 2) (af 1)) (aB iY (af 3) (af 0))) (ai (.int (10 ^ 60)))) (aa (aB j7 (aB j6 (aB iY (af 3) (af 1)) (aB iY (af 2) (af 0))) (ai (.int (10 ^ 60)))) ak)))) av))
noncomputable abbrev b11(c:aD):DS:=(ao (dN (jE [0,1]) (aq (c 10) ak)) (ao (dN (tV [2,3]) (cB (aa (af 0) (aa (af 1) ak)))) (ao (ay 4 (d8 true ak)) (ao (kN (eE (aa (ai (.int 64)) ak)) (aU 5) (Tp c)) (ao (aX (af 4)) av)))))
noncomputable abbrev b12(c:aD):DS:=(ao (aX (aq (bB j0) (aa (a_ [2,3] (eE (aa (af 1) ak)) (aU 3) bN (gu (aB jj (aB j7 (af 0) (aB zF (ai (.int 256)) (af 3))) (ai (.int 256)))) [] bh) ak))) av)
noncomputable abbrev b13(c:aD):DS:=(ao (ay 1 (aB jj (aB j6 (ai (.int 55)) (aq (bB dj) (aa (af 0) ak))) (ai (.int 64)))) (ao (aX (aB cF (aB cF (aq (bB j0) (aa (af 0) ak)) (aq (bB j0) (aa (aB cF (d8 false (aa (ai (.int 128)) ak)) (aB iY (d8 false (aa (ai (.int 0)) ak)) (af 1))) ak))) (aq (c 12) (aa (aB iY (ai (.int 8)) (aq (bB dj) (aa (af 0) ak))) (aa (ai (.int 8)) ak))))) av))
noncomputable abbrev b14(c:aD):DS:=(ao (aX (aB cF (aB aC (af 0) (ai (.int 0))) (aB iY (ai (.int 256)) (aB cF (aB aC (af 0) (ai (.int 1))) (aB iY (ai (.int 256)) (aB cF (aB aC (af 0) (ai (.int 2))) (aB iY (ai (.int 256)) (aB aC (af 0) (ai (.int 3)))))))))) av)
noncomputable abbrev b15(c:aD):DS:=(ao (aX (a_ [1,2] (eE (aa (ai (.int 16)) ak)) (aU 2) bN (gu (aq (c 14) (aa (uL (af 0) (qi (aB iY (ai (.int 4)) (af 2))) (qi (aB cF (aB iY (ai (.int 4)) (af 2)) (ai (.int 4))))) ak))) [] bh)) av)
noncomputable abbrev b16(c:aD):DS:=(ao (dw (aE gi (af 0) (ai (.int 0))) (ao (aX (aB Ei (aB tL (af 1) (af 2)) (aB tL (aB j6 (aB j6 (ai (.int 4294967296)) (ai (.int 1))) (af 1)) (af 3)))) av) av) (ao (dw (aE gi (af 0) (ai (.int 1))) (ao (aX (aB Ei (aB tL (af 1) (af 3)) (aB tL (af 2) (aB j6 (aB j6 (ai (.int 4294967296)) (ai (.int 1))) (af 3))))) av) av) (ao (dw (aE gi (af 0) (ai (.int 2))) (ao (aX (aB zJ (aB zJ (af 1) (af 2)) (af 3))) av) av) (ao (aX (aB zJ (af 2) (aB Ei (af 1) (aB j6 (aB j6 (ai (.int 4294967296)) (ai (.int 1))) (af 3))))) av))))
noncomputable abbrev b17(c:aD):DS:=(ao (aX (aB jj (aB aC (cB (aa (af 1) (aa (aB cF (aB iY (ai (.int 5)) (af 1)) (ai (.int 1))) (aa (aB cF (aB iY (ai (.int 3)) (af 1)) (ai (.int 5))) (aa (aB iY (ai (.int 7)) (af 1)) ak))))) (af 0)) (ai (.int 16)))) av)
noncomputable abbrev b18(c:aD):DS:=(ao (aX (aB Ei (aB tL (aB Lw (af 0) (af 1)) (aB j6 (ai (.int 4294967296)) (ai (.int 1)))) (aB Lv (af 0) (aB j6 (ai (.int 32)) (af 1))))) av)
noncomputable abbrev b19(c:aD):DS:=(ao (dN (jE [4,5,6,7]) (af 0)) (ao (ay 8 (aB j7 (af 2) (ai (.int 16)))) (ao (ay 9 (aB jj (aB cF (aB cF (aB cF (af 4) (aq (c 16) (aa (af 8) (aa (af 5) (aa (af 6) (aa (af 7) ak)))))) (aB aC (af 1) (aq (c 17) (aa (af 8) (aa (af 2) ak))))) (af 3)) (ai (.int 4294967296)))) (ao (aX (cB (aa (af 7) (aa (aB jj (aB cF (af 5) (aq (c 18) (aa (af 9) (aa (aB aC (aB aC (ai (.tup [.tup [.int 7, .int 12, .int 17, .int 22], .tup [.int 5, .int 9, .int 14, .int 20], .tup [.int 4, .int 11, .int 16, .int 23], .tup [.int 6, .int 10, .int 15, .int 21]])) (af 8)) (aB jj (af 2) (ai (.int 4)))) ak)))) (ai (.int 4294967296))) (aa (af 5) (aa (af 6) ak)))))) av))))
noncomputable abbrev M5(c:aD):DS:=(ao (ay 4 (aq (c 19) (aa (af 4) (aa (af 3) (aa (af 5) (aa (aB aC (af 2) (af 5)) ak)))))) av)
noncomputable abbrev b20(c:aD):DS:=(ao (ay 3 (aq (c 15) (aa (af 1) ak))) (ao (ay 4 (af 0)) (ao (kN (eE (aa (ai (.int 64)) ak)) (aU 5) (M5 c)) (ao (aX (aq (bB oF) (aa (a_ [6,7,8] (Qn (aa (af 0) (aa (af 4) ak))) (jE [7,8]) bN (gu (aB jj (aB cF (af 7) (af 8)) (ai (.int 4294967296)))) [] bh) ak))) av))))
noncomputable abbrev To(c:aD):DS:=(ao (ay 3 (aq (c 20) (aa (af 3) (aa (uL (af 2) (qi (af 4)) (qi (aB cF (af 4) (ai (.int 64))))) (aa (af 1) ak))))) av)
noncomputable abbrev b21(c:aD):DS:=(ao (ay 1 (aq (c 11) ak)) (ao (ay 2 (aq (c 13) (aa (af 0) ak))) (ao (ay 3 (ai (.tup [.int 1732584193, .int 4023233417, .int 2562383102, .int 271733878]))) (ao (kN (eE (aa (ai (.int 0)) (aa (aq (bB dj) (aa (af 2) ak)) (aa (ai (.int 64)) ak)))) (aU 4) (To c)) (ao (aX (aO OJ (i7 CX) (ai (.bytes [])) (aa (a_ [5,6] (bH (af 3)) (aU 6) bN (gu (aq (c 12) (aa (af 6) (aa (ai (.int 4)) ak)))) [] bh) ak))) av)))))
noncomputable abbrev b22(c:aD):DS:=(ao (aX (eW (aE gi (af 0) (ai (.str "Names"))) (aq (jZ .string 2 [.bool false]) (aa (af 1) ak)) (af 1))) av)
noncomputable abbrev b23(c:aD):DS:=(ao (dw (gS (aE gi (af 0) (ai (.str "Names"))) (gS (dG (fz (.cls .string) (af 1))) bN)) (ao (aX (bq "octets" (af 1))) av) av) (ao (dw (gS (aE gi (af 0) (ai (.str "Nums"))) (gS (dG (fz .int (af 1))) (gS (pM (dG (fz .bool (af 1)))) bN))) (ao (aX (af 1)) av) av) (ao (fy .tree (aa (ai (.str "a key is of the wrong kind")) ak)) av)))
noncomputable abbrev b24(c:aD):DS:=(ao (ay 2 (aO aI (c 64) (af 0) (aa (af 1) ak))) (ao (dw (pM (dG (fz .dict (af 2)))) (ao (fy .tree (aa (ai (.str "a node is no dict")) ak)) av) av) (ao (aX (af 2)) av)))
noncomputable abbrev b25(c:aD):DS:=(ao (ay 3 (aO aI (c 65) (af 0) (aa (af 1) (aa (af 2) ak)))) (ao (dw (pM (dG (fz .list (af 3)))) (ao (fy .tree (aa (aB cF (af 2) (ai (.str " is no array"))) ak)) av) av) (ao (aX (af 3)) av)))
noncomputable abbrev b26(c:aD):DS:=(ao (dw (aE dX (af 2) (af 1)) (ao (aX (d8 false ak)) av) av) (ao (ay 3 (aq (c 25) (aa (af 0) (aa (af 1) (aa (af 2) ak))))) (ao (dw (aE gA (aB jj (aq (bB dj) (aa (af 3) ak)) (ai (.int 2))) (ai (.int 0))) (ao (fy .tree (aa (ai (.str "a key has no value")) ak)) av) av) (ao (aX (a_ [4,5] (eE (aa (ai (.int 0)) (aa (aq (bB dj) (aa (af 3) ak)) (aa (ai (.int 2)) ak)))) (aU 5) bN (gu (cB (aa (aq (c 23) (aa (af 2) (aa (aO aI (c 64) (af 0) (aa (aB aC (af 3) (af 5)) ak)) ak))) (aa (aB aC (af 3) (aB cF (af 5) (ai (.int 1)))) ak)))) [] bh)) av))))
noncomputable abbrev b27(c:aD):DS:=(ao (ay 3 (aq (c 25) (aa (af 0) (aa (af 1) (aa (ai (.str "Limits")) ak))))) (ao (dw (aE gA (aq (bB dj) (aa (af 3) ak)) (ai (.int 2))) (ao (fy .tree (aa (ai (.str "Limits are not two keys")) ak)) av) av) (ao (aX (cB (aa (aq (c 23) (aa (af 2) (aa (aO aI (c 64) (af 0) (aa (aB aC (af 3) (ai (.int 0))) ak)) ak))) (aa (aq (c 23) (aa (af 2) (aa (aO aI (c 64) (af 0) (aa (aB aC (af 3) (ai (.int 1))) ak)) ak))) ak)))) av)))
noncomputable abbrev b28(c:aD):DS:=(ao (ay 3 (cB (aa (zH (ai (.int 1))) (aa (zH (ai (.int 1))) ak)))) (ao (dw (dG (fz (.cls .reference) (af 1))) (ao (ay 3 (cB (aa (bq "number" (af 1)) (aa (bq "generation" (af 1)) ak)))) (ao (dw (aE uK (af 3) (af 0)) (ao (fy .tree (aa (ai (.str "a node lies within itself")) ak)) av) av) (ao (iu (aB cF (aO oZ pF (af 2) (aa (af 3) (aa (ai (.int 0)) ak))) (ai (.int 1))) (af 2) (af 3)) (ao (dw (aE C3 (aB aC (af 2) (af 3)) (ai (.int 16))) (ao (fy .tree (aa (ai (.str "a node is told at too many places")) ak)) av) av) av)))) av) (ao (dw (aE C3 (aq (bB dj) (aa (af 0) ak)) (ai (.int 40))) (ao (fy .tree (aa (ai (.str "the tree is too deep")) ak)) av) av) (ao (aX (aB cF (af 0) (cB (aa (af 3) ak)))) av))))
noncomputable abbrev Tn(c:aD):DS:=(ao (dN (jE [6,7]) (aO nu (bB Br) (af 5) ak)) (ao (ay 7 (aq (c 28) (aa (af 7) (aa (af 6) (aa (af 4) ak))))) (ao (ay 8 (aq (c 24) (aa (af 0) (aa (af 6) ak)))) (ao (dw (aE uK (ai (.str "Kids")) (af 8)) (ao (cU (aO nu (i7 jL) (af 5) (aa (a_ [9,10] (bH (aq (bB m8) (aa (aq (c 25) (aa (af 0) (aa (af 8) (aa (ai (.str "Kids")) ak)))) ak))) (aU 10) bN (gu (cB (aa (af 10) (aa (af 7) ak)))) [] bh) ak))) av) (ao (cU (aO nu (i7 jL) (af 3) (aa (aq (c 26) (aa (af 0) (aa (af 8) (aa (af 2) ak)))) ak))) av)) av))))
noncomputable abbrev b29(c:aD):DS:=(ao (ay 3 (d8 true ak)) (ao (ay 4 (dh true (.bO []))) (ao (ay 5 (d8 true (aa (cB (aa (af 1) (aa (cB ak) ak))) ak))) (ao (eB (aE C3 (aq (bB dj) (aa (af 5) ak)) (ai (.int 0))) (Tn c) 100) (ao (aX (af 3)) av)))))
noncomputable abbrev M4(c:aD):DS:=(ao (ay 4 (aB j7 (aB cF (af 2) (af 3)) (ai (.int 2)))) (ao (dw (aE uJ (aB aC (af 0) (af 4)) (af 1)) (ao (ay 2 (aB cF (af 4) (ai (.int 1)))) av) (ao (ay 3 (af 4)) av)) av))
noncomputable abbrev b30(c:aD):DS:=(ao (ay 2 (ai (.int 0))) (ao (ay 3 (aq (bB dj) (aa (af 0) ak))) (ao (eB (aE uJ (af 2) (af 3)) (M4 c) 10) (ao (aX (af 2)) av))))
noncomputable abbrev Tj(c:aD):DS:=(ao (ay 6 (aB j7 (aB cF (af 4) (af 5)) (ai (.int 2)))) (ao (dw (aE uJ (aB aC (aq (c 27) (aa (af 0) (aa (aq (c 24) (aa (af 0) (aa (aB aC (af 1) (af 6)) ak))) (aa (af 2) ak)))) (ai (.int 1))) (af 3)) (ao (ay 4 (aB cF (af 6) (ai (.int 1)))) av) (ao (ay 5 (af 6)) av)) av))
noncomputable abbrev b31(c:aD):DS:=(ao (ay 4 (ai (.int 0))) (ao (ay 5 (aq (bB dj) (aa (af 1) ak))) (ao (eB (aE uJ (af 4) (af 5)) (Tj c) 10) (ao (aX (af 4)) av))))
noncomputable abbrev Ti(c:aD):DS:=(ao (ay 7 (aq (c 24) (aa (af 0) (aa (af 5) ak)))) (ao (dw (aE dX (ai (.str "Kids")) (af 7)) (ao (ay 8 (aq (c 26) (aa (af 0) (aa (af 7) (aa (af 2) ak))))) (ao (ay 9 (aq (c 30) (aa (a_ [11,12] (bH (af 8)) (aU 12) bN (gu (aB aC (af 12) (ai (.int 0)))) [] bh) (aa (af 3) ak)))) (ao (aX (eW (gS (aE uJ (af 9) (aq (bB dj) (aa (af 8) ak))) (gS (aE gi (aB aC (aB aC (af 8) (af 9)) (ai (.int 0))) (af 3)) bN)) (aB aC (aB aC (af 8) (af 9)) (ai (.int 1))) (af 4))) av))) av) (ao (ay 10 (aq (c 25) (aa (af 0) (aa (af 7) (aa (ai (.str "Kids")) ak))))) (ao (ay 9 (aq (c 31) (aa (af 0) (aa (af 10) (aa (af 2) (aa (af 3) ak)))))) (ao (dw (pL (aE gi (af 9) (aq (bB dj) (aa (af 10) ak))) (pL (aE uJ (af 3) (aB aC (aq (c 27) (aa (af 0) (aa (aq (c 24) (aa (af 0) (aa (aB aC (af 10) (af 9)) ak))) (aa (af 2) ak)))) (ai (.int 0)))) gR)) (ao (aX (af 4)) av) av) (ao (ay 5 (aB aC (af 10) (af 9))) av))))))
noncomputable abbrev b32(c:aD):DS:=(ao (ay 5 (af 1)) (ao (kN (eE (aa (aB cF (ai (.int 40)) (ai (.int 1))) ak)) (aU 6) (Ti c)) (ao (fy .tree (aa (ai (.str "the tree is too deep")) ak)) av)))
noncomputable abbrev Th(c:aD):DS:=(ao (ay 6 (aB cF (aB cF (af 4) (aB j7 (aq (bB dj) (aa (af 0) ak)) (af 2))) (eW (aE uJ (af 5) (aB jj (aq (bB dj) (aa (af 0) ak)) (af 2))) (ai (.int 1)) (ai (.int 0))))) (ao (cU (aO nu (i7 fG) (af 3) (aa (uL (af 0) (qi (af 4)) (qi (af 6))) ak))) (ao (ay 4 (af 6)) av)))
noncomputable abbrev b33(c:aD):DS:=(ao (ay 2 (aB j7 (aB j6 (aB cF (aq (bB dj) (aa (af 0) ak)) (af 1)) (ai (.int 1))) (af 1))) (ao (ay 3 (d8 true ak)) (ao (ay 4 (ai (.int 0))) (ao (kN (eE (aa (af 2) ak)) (aU 5) (Th c)) (ao (aX (af 3)) av)))))
noncomputable abbrev M3(c:aD):DS:=(ao (cU (aO nu (i7 fG) (af 2) (aa (aq (c 22) (aa (af 0) (aa (af 3) ak))) ak))) (ao (cU (aO nu (i7 fG) (af 2) (aa (af 4) ak))) av))
noncomputable abbrev b34(c:aD):DS:=(ao (ay 2 (d8 true ak)) (ao (kN (bH (af 1)) (jE [3,4]) (M3 c)) (ao (aX (cV false .ks (bW (ai (.str "Limits")) (d8 false (aa (aq (c 22) (aa (af 0) (aa (aB aC (aB aC (af 1) (ai (.int 0))) (ai (.int 0))) ak))) (aa (aq (c 22) (aa (af 0) (aa (aB aC (aB aC (af 1) (zH (ai (.int 1)))) (ai (.int 0))) ak))) ak))) (bW (af 0) (af 2) fV)))) av)))
noncomputable abbrev b35(c:aD):DS:=(ao (aX (cV false .ks (bW (ai (.str "Limits")) (d8 false (aa (aB aC (aB aC (aB aC (af 0) (ai (.int 0))) (ai (.str "Limits"))) (ai (.int 0))) (aa (aB aC (aB aC (aB aC (af 0) (zH (ai (.int 1)))) (ai (.str "Limits"))) (ai (.int 1))) ak))) (bW (ai (.str "Kids")) (af 0) fV)))) av)
noncomputable abbrev b36(c:aD):DS:=(ao (aX (a_ [1,2] (bH (af 0)) (aU 2) (aE gA (af 2) (ai (.str "Limits"))) (WE (af 2) (aB aC (af 0) (af 2))) (.dict .ks []) Cu)) av)
noncomputable abbrev Tf(c:aD):DS:=(ao (ay 5 (a_ [6,7] (bH (aq (c 33) (aa (af 5) (aa (af 2) ak)))) (aU 7) bN (gu (aq (c 35) (aa (af 7) ak))) [] bh)) av)
noncomputable abbrev M1(c:aD):DS:=(ao (dw (aE gi (aB aC (aB aC (af 3) (aB j6 (af 4) (ai (.int 1)))) (ai (.int 0))) (aB aC (aB aC (af 3) (af 4)) (ai (.int 0)))) (ao (fy .tree (aa (ai (.str "a key is told twice")) ak)) av) av) av)
noncomputable abbrev b37(c:aD):DS:=(ao (dw (aE uJ (af 2) (ai (.int 2))) (ao (fy .tree (aa (ai (.str "a node must have room for two")) ak)) av) av) (ao (ay 3 (pJ 0 0 (aa (af 0) ak))) (ao (kN (eE (aa (ai (.int 1)) (aa (aq (bB dj) (aa (af 3) ak)) ak))) (aU 4) (M1 c)) (ao (dw (aE gi (aq (bB dj) (aa (af 3) ak)) (ai (.int 0))) (ao (aX (cV false .ks (bW (af 1) (d8 false ak) fV))) av) av) (ao (ay 5 (a_ [6,7] (bH (aq (c 33) (aa (af 3) (aa (af 2) ak)))) (aU 7) bN (gu (aq (c 34) (aa (af 1) (aa (af 7) ak)))) [] bh)) (ao (eB (aE C3 (aq (bB dj) (aa (af 5) ak)) (ai (.int 1))) (Tf c) 3) (ao (aX (aq (c 36) (aa (aB aC (af 5) (ai (.int 0))) ak))) av)))))))
noncomputable abbrev b38(c:aD):DS:=(ao (ay 1 (aO aI (c 65) (af 0) (aa (aO aI (c 70) (af 0) ak) (aa (ai (.str "Names")) ak)))) (ao (aX (eW (dG (fz .dict (af 1))) (af 1) (dh false (.dict .ks [])))) av))
noncomputable abbrev b39(c:aD):DS:=(ao (ay 1 (aO oZ pF (aq (c 38) (aa (af 0) ak)) (aa (ai (.str "EmbeddedFiles")) ak))) (ao (aX (eW (aE Lx (aO aI (c 64) (af 0) (aa (af 1) ak)) (ai (.none))) (d8 false ak) (aq (c 29) (aa (af 0) (aa (af 1) (aa (ai (.str "Names")) ak)))))) av))
noncomputable abbrev b40(c:aD):DS:=(ao (aX (a_ [1,2,3] (bH (aq (c 39) (aa (af 0) ak))) (jE [2,3]) bN (gu (cB (aa (af 2) (aa (aO aI (c 64) (af 0) (aa (af 3) ak)) ak)))) [] bh)) av)
noncomputable abbrev b41(c:aD):DS:=(ao (ay 2 (aO oZ pF (aq (c 38) (aa (af 0) ak)) (aa (ai (.str "EmbeddedFiles")) ak))) (ao (ay 3 (eW (aE Lx (aO aI (c 64) (af 0) (aa (af 2) ak)) (ai (.none))) (ai (.none)) (aO aI (c 64) (af 0) (aa (aq (c 32) (aa (af 0) (aa (af 2) (aa (ai (.str "Names")) (aa (af 1) ak))))) ak)))) (ao (dw (pM (dG (fz .dict (af 3)))) (ao (fy .tree (aa (ai (.str "no file of this name is embedded")) ak)) av) av) (ao (aX (af 3)) av))))
noncomputable abbrev Te(c:aD):DS:=(ao (ay 4 (aO aI (c 65) (af 0) (aa (af 2) (aa (af 3) ak)))) (ao (dw (dG (fz (.cls .stream) (af 4))) (ao (aX (af 4)) av) av) av))
noncomputable abbrev b42(c:aD):DS:=(ao (ay 2 (aO aI (c 65) (af 0) (aa (af 1) (aa (ai (.str "EF")) ak)))) (ao (dw (pM (dG (fz .dict (af 2)))) (ao (aX (ai (.none))) av) av) (ao (kN (bH (cB (aa (ai (.str "F")) (aa (ai (.str "UF")) ak)))) (aU 3) (Te c)) (ao (aX (ai (.none))) av))))
noncomputable abbrev b43(c:aD):DS:=(ao (ay 3 (aO aI (c 65) (af 0) (aa (bq "head" (af 1)) (aa (ai (.str "Params")) ak)))) (ao (dw (pM (dG (fz .dict (af 3)))) (ao (aX (ai (.str ""))) av) av) (ao (ay 4 (aO aI (c 65) (af 0) (aa (af 3) (aa (ai (.str "Size")) ak)))) (ao (dw (gS (aE iZ (af 4) (ai (.none))) (gS (pL (aE gA (aq (c 0) (aa (af 4) ak)) (ai (.str "int"))) (pL (aE gA (af 4) (aq (bB dj) (aa (af 2) ak))) gR)) bN)) (ao (aX (ai (.str "wrong Size"))) av) av) (ao (ay 5 (aO aI (c 65) (af 0) (aa (af 3) (aa (ai (.str "CheckSum")) ak)))) (ao (dw (gS (aE iZ (af 5) (ai (.none))) (gS (pL (aE gA (aq (c 0) (aa (af 5) ak)) (ai (.str "string"))) (pL (aE gA (bq "octets" (af 5)) (aq (c 21) (aa (af 2) ak))) gR)) bN)) (ao (aX (ai (.str "wrong CheckSum"))) av) av) (ao (aX (ai (.str ""))) av)))))))
noncomputable abbrev b44(c:aD):DS:=(ao (ay 3 (aq (c 42) (aa (af 0) (aa (aq (c 41) (aa (af 0) (aa (af 1) ak))) ak)))) (ao (dw (aE Lx (af 3) (ai (.none))) (ao (fy .tree (aa (ai (.str "no stream is embedded")) ak)) av) av) (ao (ay 4 (xB (af 2) (λ_=>c 57) (aa (af 0) (aa (af 3) ak)))) (ao (ay 5 (aq (c 43) (aa (af 0) (aa (af 3) (aa (af 4) ak))))) (ao (dw (aE gA (af 5) (ai (.str ""))) (ao Bx av) av) (ao (aX (af 4)) av))))))
noncomputable abbrev M0(c:aD):DS:=(ao (dw (pL (aE Lx (af 2) (ai (.none))) (pL (pM (dG (fz (.cls .reference) (aB aC (aB aC (bq "table" (af 0)) (bq "number" (af 2))) (ai (.int 1)))))) gR)) (ao (aX (af 2)) av) av) (ao (ay 2 (aB aC (aB aC (bq "table" (af 0)) (bq "number" (af 2))) (ai (.int 1)))) av))
noncomputable abbrev b45(c:aD):DS:=(ao (ay 2 (eW (dG (fz (.cls .reference) (af 1))) (af 1) (ai (.none)))) (ao (kN (eE (aa (ai (.int 30)) ak)) (aU 3) (M0 c)) (ao (aX (af 2)) av)))
noncomputable abbrev b46(c:aD):DS:=(ao (ay 3 (aq (bB (gw true (.dict .ks []))) (aa (a_ [4,5] (bH (af 0)) (aU 5) (aE gA (af 5) (af 1)) (gu (cB (aa (af 5) (aa (aB aC (af 0) (af 5)) ak)))) [] bh) ak))) (ao (dw (aE iZ (af 2) (ai (.none))) (ao (iu (af 2) (af 3) (af 1)) av) av) (ao (aX (af 3)) av)))
noncomputable abbrev b47(c:aD):DS:=(ao (ay 1 (eW (aE gA (aO aI (c 70) (af 0) ak) (dh false (.dict .ks []))) (aq (c 45) (aa (af 0) (aa (aO oZ pF (bq "trailer" (af 0)) (aa (ai (.str "Root")) ak)) ak))) (ai (.none)))) (ao (dw (aE Lx (af 1) (ai (.none))) (ao (fy .i_ (aa (ai (.str "no dict of the document")) ak)) av) av) (ao (aX (af 1)) av)))
noncomputable abbrev b48(c:aD):DS:=(ao (ay 2 (aq (c 47) (aa (af 0) ak))) (ao (ay 3 (a_ [7,8,9] (qB (aq (bB (gw false (.dict .kb []))) (aa (af 1) ak))) (jE [8,9]) bN (gu (cB (aa (af 8) (aa (af 9) ak)))) [] bh)) (ao (ay 4 (aq (c 46) (aa (aq (c 38) (aa (af 0) ak)) (aa (ai (.str "EmbeddedFiles")) (aa (eW (aE gA (af 3) (d8 false ak)) (aq (c 37) (aa (af 3) (aa (ai (.str "Names")) (aa (ai (.int 32)) ak)))) (ai (.none))) ak))))) (ao (ay 5 (aO oZ pF (aO aI (c 70) (af 0) ak) (aa (ai (.str "Names")) ak))) (ao (dw (gS (dG (fz .dict (aO aI (c 64) (af 0) (aa (af 5) ak)))) (gS (dG (fz (.cls .reference) (af 5))) bN)) (ao (ay 6 (aq (c 45) (aa (af 0) (aa (af 5) ak)))) (ao (cU (aO aI (c 66) (af 0) (aa (bq "number" (af 6)) (aa (bq "generation" (af 6)) (aa (af 4) ak))))) av)) (ao (cU (aO aI (c 66) (af 0) (aa (bq "number" (af 2)) (aa (bq "generation" (af 2)) (aa (aq (c 46) (aa (aO aI (c 70) (af 0) ak) (aa (ai (.str "Names")) (aa (af 4) ak)))) ak))))) av)) av)))))
noncomputable abbrev MZ(c:aD):DS:=(ao (dw (aE dX (af 3) (af 2)) (ao (cU (aO aI (c 68) (af 0) (aa (af 3) ak))) av) av) av)
noncomputable abbrev b49(c:aD):DS:=(ao (ay 2 (aq (c 9) (aa (af 0) ak))) (ao (cU (aq (c 48) (aa (af 0) (aa (af 1) ak)))) (ao (kN (bH (aq (c 9) (aa (af 0) ak))) (aU 3) (MZ c)) av)))
noncomputable abbrev b50(c:aD):DS:=(ao (ay 2 (cV false .ks (bW (ai (.str "Size")) (aq (bB dj) (aa (af 0) ak)) (bW (ai (.str "CheckSum")) (aq (jZ .string 2 [.bool false]) (aa (aq (c 21) (aa (af 0) ak)) (aa (ai (.bool true)) ak))) fV)))) (ao (aX (aq (jZ .stream 2 []) (aa (aq (c 46) (aa (aq (c 46) (aa (bq "head" (af 1)) (aa (ai (.str "Type")) (aa (aq (jZ .name 1 []) (aa (ai (.str "EmbeddedFile")) ak)) ak)))) (aa (ai (.str "Params")) (aa (af 2) ak)))) (aa (bq "octets" (af 1)) ak)))) av))
noncomputable abbrev b51(c:aD):DS:=(ao (aX (cV false .ks (bW (ai (.str "Type")) (aq (jZ .name 1 []) (aa (ai (.str "Filespec")) ak)) (bW (ai (.str "F")) (aq (jZ .string 2 [.bool false]) (aa (af 0) ak)) (bW (ai (.str "UF")) (aq (jZ .string 2 [.bool false]) (aa (af 0) ak)) (bW (ai (.str "EF")) (cV false .ks (bW (ai (.str "F")) (af 1) (bW (ai (.str "UF")) (af 1) fV))) fV)))))) av)
noncomputable abbrev b52(c:aD):DS:=(ao (cU (aq (c 47) (aa (af 0) ak))) (ao (ay 3 (a_ [5,6] (bH (aq (c 39) (aa (af 0) ak))) (aU 6) (aE gA (aB aC (af 6) (ai (.int 0))) (af 1)) (gu (af 6)) [] bh)) (ao (ay 4 (aO aI (c 67) (af 0) (aa (aq (c 51) (aa (af 1) (aa (aO aI (c 67) (af 0) (aa (af 2) ak)) ak))) ak))) (ao (cU (aq (c 49) (aa (af 0) (aa (aB cF (af 3) (d8 false (aa (cB (aa (af 1) (aa (af 4) ak))) ak))) ak)))) (ao (aX (af 4)) av)))))
noncomputable abbrev b53(c:aD):DS:=(ao (ay 2 (aq (c 39) (aa (af 0) ak))) (ao (ay 3 (a_ [4,5] (bH (af 2)) (aU 5) (aE gA (aB aC (af 5) (ai (.int 0))) (af 1)) (gu (af 5)) [] bh)) (ao (dw (aE gi (aq (bB dj) (aa (af 3) ak)) (aq (bB dj) (aa (af 2) ak))) (ao (fy .tree (aa (ai (.str "no file of this name is embedded")) ak)) av) av) (ao (cU (aq (c 49) (aa (af 0) (aa (af 3) ak)))) av))))
noncomputable abbrev b54(c:aD):DS:=(ao (dw (aE C3 (aB aC (af 0) (ai (.int 2))) (ai (.int 0))) (ao (ay 2 (aB jj (aB aC (af 0) (ai (.int 2))) (af 1))) (ao (iu (aB j7 (aB aC (af 0) (ai (.int 2))) (af 1)) (af 0) (ai (.int 2))) (ao (aX (af 2)) av))) av) (ao (ay 3 (aB aC (af 0) (ai (.int 1)))) (ao (iu (aB cF (af 3) (ai (.int 1))) (af 0) (ai (.int 1))) (ao (dw (aE V8 (af 3) (aq (bB dj) (aa (aB aC (af 0) (ai (.int 0))) ak))) (ao (aX (aB jj (aB j7 (aB iY (aB iY (aB cF (aB aC (af 0) (ai (.int 3))) (ai (.int 5))) (aB cF (af 3) (ai (.int 3)))) (aB cF (af 3) (ai (.int 11)))) (ai (.int 7))) (af 1))) av) av) (ao (ay 4 (aB aC (aB aC (af 0) (ai (.int 0))) (af 3))) (ao (dw (aE uJ (aq (bB zx) (aa (af 4) ak)) (aB zF (ai (.int 10)) (ai (.int 18)))) (ao (aX (aB jj (af 4) (af 1))) av) av) (ao (ay 5 (aB cF (aB iY (ai (.int 2)) (aB j6 (aq (bB zx) (aa (af 4) ak)) (aB zF (ai (.int 10)) (ai (.int 18))))) (eW (aE uJ (af 4) (ai (.int 0))) (ai (.int 1)) (ai (.int 0))))) (ao (iu (aB j7 (af 5) (af 1)) (af 0) (ai (.int 2))) (ao (aX (aB jj (af 5) (af 1))) av)))))))))
noncomputable abbrev b55(c:aD):DS:=(ao (aX (d8 true (aa (aq (bB zv) (aa (uL (af 0) yF (qi (ai (.int 63)))) ak)) (aa (ai (.int 0)) (aa (ai (.int 0)) (aa (aB jj (aq (bB zx) (aa (aq (bB Ln) (aa (uL (af 0) yF (qi (ai (.int 63)))) ak)) ak)) (ai (.int 1009))) ak)))))) av)
noncomputable abbrev MY(c:aD):DS:=(ao (ay 4 (aq (c 54) (aa (af 0) (aa (ai (.int 3)) ak)))) (ao (cU (aO nu (i7 fG) (af 2) (aa (eW (aE gi (af 4) (ai (.int 0))) (ai (.int 0)) (eW (aE gi (af 4) (ai (.int 1))) (aB aC (aB cF (af 2) (d8 false (aa (ai (.int 255)) ak))) (eW (aE C3 (af 3) (ai (.int 0))) (aB j6 (af 3) (ai (.int 1))) (ai (.int 0)))) (aq (c 54) (aa (af 0) (aa (ai (.int 256)) ak))))) ak))) av))
noncomputable abbrev b56(c:aD):DS:=(ao (ay 2 (d8 true ak)) (ao (kN (eE (aa (aq (c 54) (aa (af 0) (aa (aB cF (af 1) (ai (.int 1))) ak))) ak)) (aU 3) (MY c)) (ao (aX (aq (bB j0) (aa (af 2) ak))) av)))
noncomputable abbrev b57(c:aD):DS:=(ao (aX (bq "octets" (af 1))) av)
noncomputable abbrev b58(c:aD):DS:=(ao (ay 3 (aO aI (c 67) (af 0) (aa (aq (jZ .stream 2 []) (aa (cV false .ks (bW (ai (.str "Length")) (aq (bB dj) (aa (af 2) ak)) fV)) (aa (af 2) ak))) ak))) (ao (aX (aO aI (c 67) (af 0) (aa (cV false .ks (bW (ai (.str "Type")) (aq (jZ .name 1 []) (aa (ai (.str "Filespec")) ak)) (bW (ai (.str "F")) (aq (jZ .string 2 [.bool false]) (aa (af 1) ak)) (bW (ai (.str "EF")) (cV false .ks (bW (ai (.str "F")) (af 3) fV)) fV)))) ak))) av))
noncomputable abbrev b59(c:aD):DS:=(ao (ay 3 (aq (bB c_) (aa (af 2) ak))) (ao (ay 4 (a_ [8,9] (bH (af 3)) (aU 9) bN (gu (d8 false (aa (aq (jZ .string 2 [.bool false]) (aa (af 9) ak)) (aa (aq (c 58) (aa (af 1) (aa (af 9) (aa (aB aC (af 2) (af 9)) ak)))) ak)))) [] bh)) (ao (dw (aE gi (af 3) (d8 false ak)) (ao (aX (ai (.none))) av) av) (ao (ay 5 (aq (c 54) (aa (af 0) (aa (ai (.int 3)) ak)))) (ao (dw (aE gi (af 5) (ai (.int 0))) (ao (ay 6 (cV false .ks (bW (ai (.str "Names")) (a_ [8,9,10] (bH (af 4)) (aU 9) bN (RX (bH (af 9)) (aU 10) bN (af 10)) [] bh) fV))) av) (ao (ay 7 (a_ [8,9] (bH (af 4)) (aU 9) bN (gu (cV false .ks (bW (ai (.str "Limits")) (d8 false (aa (aB aC (af 9) (ai (.int 0))) (aa (aB aC (af 9) (ai (.int 0))) ak))) (bW (ai (.str "Names")) (af 9) fV)))) [] bh)) (ao (ay 6 (cV false .ks (bW (ai (.str "Kids")) (eW (aE gi (af 5) (ai (.int 1))) (a_ [8,9] (bH (af 7)) (aU 9) bN (gu (aO aI (c 67) (af 1) (aa (af 9) ak))) [] bh) (af 7)) fV))) av))) (ao (aX (eW (aE gi (aq (c 54) (aa (af 0) (aa (ai (.int 2)) ak))) (ai (.int 0))) (aO aI (c 67) (af 1) (aa (af 6) ak)) (af 6))) av))))))
noncomputable abbrev Tc(c:aD):DS:=(ao (iu (aq (c 56) (aa (af 0) (aa (ai (.int 3)) ak))) (af 2) (aB aC (ai (.tup [.bytes [97], .bytes [98], .bytes [97,98], .bytes [], .bytes [255]])) (af 3))) av)
noncomputable abbrev b60(c:aD):DS:=(ao (dN (tV [1,2]) (pK (aa (aq (i7 mz) (aa (dh true (.dict .ki [])) (aa (dh true (.dict .ks [])) ak))) (aa (dh true (.dict .kb [])) ak)))) (ao (kN (eE (aa (aq (c 54) (aa (af 0) (aa (ai (.int 4)) ak))) ak)) (aU 3) (Tc c)) (ao (cU (aO aI (c 66) (af 1) (aa (ai (.int 40)) (aa (ai (.int 0)) (aa (d8 false (aa (ai (.int 1)) (aa (ai (.int 2)) ak))) ak))))) (ao (dN (tV [4,5]) (pK (aa (aq (c 59) (aa (af 0) (aa (af 1) (aa (af 2) ak)))) (aa (aq (c 54) (aa (af 0) (aa (ai (.int 4)) ak))) ak)))) (ao (ay 6 (cV true .ks (bW (ai (.str "Dests")) (cV false .ks (bW (ai (.str "Names")) (d8 false (aa (aq (jZ .string 2 [.bool false]) (aa (ai (.bytes [120])) ak)) (aa (ai (.int 7)) ak))) fV)) fV))) (ao (dw (aE iZ (af 4) (ai (.none))) (ao (iu (af 4) (af 6) (ai (.str "EmbeddedFiles"))) av) av) (ao (ay 7 (cV true .ks (bW (ai (.str "Type")) (aq (jZ .name 1 []) (aa (ai (.str "Catalog")) ak)) (bW (ai (.str "Lang")) (aq (jZ .string 2 [.bool false]) (aa (ai (.bytes [101,110])) ak)) fV)))) (ao (dw (aE gi (af 5) (ai (.int 1))) (ao (cU (aO aI (c 66) (af 1) (aa (ai (.int 60)) (aa (ai (.int 0)) (aa (af 6) ak))))) (ao (iu (aq (jZ .reference 2 []) (aa (ai (.int 60)) (aa (ai (.int 0)) ak))) (af 7) (ai (.str "Names"))) av)) (ao (dw (aE gi (af 5) (ai (.int 2))) (ao (cU (aO aI (c 66) (af 1) (aa (ai (.int 60)) (aa (ai (.int 3)) (aa (aq (jZ .reference 2 []) (aa (ai (.int 61)) (aa (ai (.int 0)) ak))) ak))))) (ao (cU (aO aI (c 66) (af 1) (aa (ai (.int 61)) (aa (ai (.int 0)) (aa (af 6) ak))))) (ao (iu (aq (jZ .reference 2 []) (aa (ai (.int 60)) (aa (ai (.int 3)) ak))) (af 7) (ai (.str "Names"))) av))) (ao (dw (pL (aE gi (af 5) (ai (.int 0))) (pL (aE iZ (af 4) (ai (.none))) gR)) (ao (iu (af 6) (af 7) (ai (.str "Names"))) av) av) av)) av)) (ao (cU (aO aI (c 66) (af 1) (aa (ai (.int 70)) (aa (ai (.int 2)) (aa (af 7) ak))))) (ao (iu (aq (jZ .reference 2 []) (aa (ai (.int 70)) (aa (ai (.int 2)) ak))) (bq "trailer" (af 1)) (ai (.str "Root"))) (ao (aX (pK (aa (af 1) (aa (af 2) ak)))) av)))))))))))
noncomputable abbrev b61(c:aD):DS:=(ao (ay 1 (aO aI (c 65) (af 0) (aa (aO aI (c 70) (af 0) ak) (aa (ai (.str "Names")) ak)))) (ao (ay 2 (eW (dG (fz .dict (af 1))) (aq (bB (gw false (.dict .ks []))) (aa (a_ [4,5] (bH (af 1)) (aU 5) (aE gA (af 5) (ai (.str "EmbeddedFiles"))) (gu (cB (aa (af 5) (aa (aB aC (af 1) (af 5)) ak)))) [] bh) ak)) (dh false (.dict .ks [])))) (ao (ay 3 (aq (bB (gw false (.dict .ks []))) (aa (a_ [4,5] (bH (aO aI (c 70) (af 0) ak)) (aU 5) (aE gA (af 5) (ai (.str "Names"))) (gu (cB (aa (af 5) (aa (aB aC (aO aI (c 70) (af 0) ak) (af 5)) ak)))) [] bh) ak))) (ao (aX (cB (aa (aq (c 2) (aa (af 2) ak)) (aa (aq (c 2) (aa (af 3) ak)) (aa (aq (c 2) (aa (bq "trailer" (af 0)) ak)) (aa (aq (c 2) (aa (aB aC (aB aC (bq "table" (af 0)) (ai (.int 40))) (ai (.int 1))) ak)) (aa (aB aC (aB aC (bq "table" (af 0)) (ai (.int 70))) (ai (.int 0))) ak))))))) av))))
noncomputable abbrev b62(c:aD):DS:=(ao (dw (pL (aE gA (a_ [4,5,6] (bH (aq (c 40) (aa (af 0) ak))) (jE [5,6]) bN (gu (af 5)) [] bh) (aq (bB c_) (aa (af 1) ak))) (pL (aE gA (aq (c 9) (aa (af 0) ak)) (d8 false (aa (ai (.int 40)) ak))) (pL (aE gA (aq (c 61) (aa (af 0) ak)) (af 2)) gR))) (ao (aX (ai (.bool false))) av) av) (ao (dw (gS (dG (af 3)) (gS (aE C3 (aq (bB dj) (aa (bq "table" (af 0)) ak)) (aB cF (aB iY (ai (.int 2)) (aq (bB dj) (aa (af 1) ak))) (ai (.int 6)))) bN)) (ao (aX (ai (.bool false))) av) av) (ao (aX (aB gi (a_ [4,5] (bH (af 1)) (aU 5) (aE gA (aq (c 44) (aa (af 0) (aa (af 5) (aa (ai (.fn 0)) ak)))) (aB aC (af 1) (af 5))) (gu (af 5)) [] bh) (d8 false ak))) av)))
noncomputable abbrev GZ(c:aD):DS:=(ao (ay 4 (aB aC (ai (.tup [.bytes [97], .bytes [98], .bytes [97,98], .bytes [], .bytes [255]])) (aq (c 54) (aa (af 1) (aa (ai (.int 5)) ak))))) (ao (dw (aE gi (aq (c 54) (aa (af 1) (aa (ai (.int 2)) ak))) (ai (.int 0))) (ao (ay 5 (ai (.bool true))) (ao (iu (aq (c 56) (aa (af 1) (aa (ai (.int 3)) ak))) (af 2) (af 4)) (ao (ay 7 (aq (c 52) (aa (af 11) (aa (af 4) (aa (aq (c 50) (aa (aB aC (af 2) (af 4)) (aa (aq (jZ .stream 2 []) (aa (cV false .ks (bW (ai (.str "Length")) (aq (bB dj) (aa (aB aC (af 2) (af 4)) ak)) fV)) (aa (aB aC (af 2) (af 4)) ak))) ak))) ak))))) (ao (dw (aE gA (bq "octets" (aB aC (aO aI (c 64) (af 11) (aa (af 7) ak)) (ai (.str "F")))) (af 4)) (ao (aX (ai (.bool false))) av) av) av)))) (ao (ay 8 (aO aI (c 71) (af 11) ak)) (ao (ay 9 (gQ 1 1 (aq (c 53) (aa (af 11) (aa (af 4) ak))))) (ao (dw (pL (aE gA (af 9) (eW (aE uK (af 4) (af 2)) (ai (.str "")) (ai (.str "tree")))) (pL (gS (aE dX (af 4) (af 2)) (gS (aE gA (aO aI (c 71) (af 11) ak) (af 8)) bN)) gR)) (ao (aX (ai (.bool false))) av) av) (ao (ay 5 (zG (af 5) (aB uK (af 4) (af 2)))) (ao (ay 2 (aq (bB (gw true (.dict .kb []))) (aa (a_ [12,13] (bH (af 2)) (aU 13) (aE gA (af 13) (af 4)) (gu (cB (aa (af 13) (aa (aB aC (af 2) (af 13)) ak)))) [] bh) ak))) av)))))) (ao (dw (pM (dG (aq (c 62) (aa (af 11) (aa (af 2) (aa (af 3) (aa (af 5) ak))))))) (ao (aX (ai (.bool false))) av) av) av)))
noncomputable abbrev b63(c:aD):DS:=(ao (ay 1 (aq (c 55) (aa (af 0) ak))) (ao (dN (jE [11,2]) (aq (c 60) (aa (af 1) ak))) (ao (ay 3 (aq (c 61) (aa (af 11) ak))) (ao (dw (aE gA (a_ [12,13,14] (bH (aq (c 40) (aa (af 11) ak))) (jE [13,14]) bN (gu (af 13)) [] bh) (aq (bB c_) (aa (af 2) ak))) (ao (aX (ai (.bool false))) av) av) (ao (ay 5 (ai (.bool false))) (ao (kN (eE (aa (aB cF (ai (.int 1)) (aq (c 54) (aa (af 1) (aa (ai (.int 2)) ak)))) ak)) (aU 6) (GZ c)) (ao (ay 8 (aO aI (c 71) (af 11) ak)) (ao (dw (pL (aE gA (gQ 1 1 (aq (c 44) (aa (af 11) (aa (ai (.bytes [110,111,110,101])) (aa (ai (.fn 0)) ak))))) (ai (.str "tree"))) (pL (aE gA (aO aI (c 71) (af 11) ak) (af 8)) gR)) (ao (aX (ai (.bool false))) av) av) (ao (ay 10 (aq (i7 mz) (aa (dh true (.dict .ki [])) (aa (eW (aE gi (aq (c 54) (aa (af 1) (aa (ai (.int 2)) ak))) (ai (.int 0))) (cV false .ks (bW (ai (.str "Root")) (cV false .ks (bW (ai (.str "Type")) (aq (jZ .name 1 []) (aa (ai (.str "Catalog")) ak)) fV)) fV)) (dh false (.dict .ks []))) ak)))) (ao (aX (tM (aB gi (gQ 1 1 (aq (c 52) (aa (af 10) (aa (ai (.bytes [97])) (aa (aq (jZ .stream 2 []) (aa (dh false (.dict .ks [])) (aa (ai (.bytes [])) ak))) ak))))) (ai (.str "draft"))) (aB gi (bq "table" (af 10)) (dh false (.dict .ks []))))) av))))))))))
noncomputable abbrev MX(c:aD):DS:=(ao (dw (pM (dG (fz (.cls .reference) (af 2)))) (ao (aX (af 2)) av) av) (ao (dN (jE [4,5]) (aO oZ pF (bq "table" (af 0)) (aa (bq "number" (af 2)) (aa (cB (aa (zH (ai (.int 1))) (aa (ai (.none)) ak))) ak)))) (ao (dw (aE gA (af 4) (bq "generation" (af 2))) (ao (aX (ai (.none))) av) av) (ao (ay 2 (af 5)) av))))
noncomputable abbrev b64(c:aD):DS:=(ao (ay 2 (af 1)) (ao (kN (eE (aa (ai (.int 30)) ak)) (aU 3) (MX c)) (ao (aX (eW (dG (fz (.cls .reference) (af 2))) (ai (.none)) (af 2))) av)))
noncomputable abbrev b65(c:aD):DS:=(ao (aX (aO aI (c 64) (af 0) (aa (aO oZ pF (af 1) (aa (af 2) ak)) ak))) av)
noncomputable abbrev b66(c:aD):DS:=(ao (iu (cB (aa (af 2) (aa (af 3) ak))) (bq "table" (af 0)) (af 1)) av)
noncomputable abbrev MW(c:aD):DS:=(ao (ay 2 (aB cF (af 2) (ai (.int 1)))) av)
noncomputable abbrev b67(c:aD):DS:=(ao (ay 2 (ai (.int 1))) (ao (eB (aE uK (af 2) (bq "table" (af 0))) (MW c) 100) (ao (iu (cB (aa (ai (.int 0)) (aa (af 1) ak))) (bq "table" (af 0)) (af 2)) (ao (aX (aq (jZ .reference 2 []) (aa (af 2) (aa (ai (.int 0)) ak)))) av))))
noncomputable abbrev b68(c:aD):DS:=(ao (dw (aE uK (af 1) (bq "table" (af 0))) (ao (cU (aO oZ (i7 HS) (bq "table" (af 0)) (aa (af 1) ak))) av) av) av)
noncomputable abbrev b69(c:aD):DS:=(ao (aX (aq (bB c_) (aa (bq "table" (af 0)) ak))) av)
noncomputable abbrev b70(c:aD):DS:=(ao (ay 1 (aO aI (c 65) (af 0) (aa (bq "trailer" (af 0)) (aa (ai (.str "Root")) ak)))) (ao (aX (eW (dG (fz .dict (af 1))) (af 1) (dh false (.dict .ks [])))) av))
noncomputable abbrev b71(c:aD):DS:=(ao (ay 1 (aq (bB oF) (aa (a_ [2,3] (bH (aO aI (c 69) (af 0) ak)) (aU 3) bN (gu (cB (aa (af 3) (aa (aB aC (aB aC (bq "table" (af 0)) (af 3)) (ai (.int 0))) (aa (aq (c 2) (aa (aB aC (aB aC (bq "table" (af 0)) (af 3)) (ai (.int 1))) ak)) ak))))) [] bh) ak))) (ao (aX (cB (aa (af 1) (aa (aq (c 2) (aa (bq "trailer" (af 0)) ak)) ak)))) av))
noncomputable abbrev b72(c:aD):DS:=(ao (aX (cB (aa (bq "number" (af 0)) (aa (bq "generation" (af 0)) ak)))) av)
noncomputable def JQ:List (aD->List V->az->aR V):=[
 λc=>bI 1 13 [] (b0 c) false,
 λc=>bI 2 14 [] (b1 c) false,
 λc=>bI 1 14 [] (b2 c) false,
 λc=>bI 1 14 [] (b3 c) false,
 λc=>bI 1 17 [] (b4 c) false,
 λc=>bI 2 16 [] (b5 c) false,
 λc=>bI 1 13 [] (b6 c) false,
 λc=>bI 2 18 [] (b7 c) false,
 λc=>bI 2 14 [] (b8 c) false,
 λc=>bI 1 14 [] (b9 c) false,
 λc=>bI 0 16 [] (b10 c) false,
 λc=>bI 0 18 [] (b11 c) false,
 λc=>bI 2 14 [] (b12 c) false,
 λc=>bI 1 14 [] (b13 c) false,
 λc=>bI 1 13 [] (b14 c) false,
 λc=>bI 1 13 [] (b15 c) false,
 λc=>bI 4 16 [] (b16 c) false,
 λc=>bI 2 14 [] (b17 c) false,
 λc=>bI 2 14 [] (b18 c) false,
 λc=>bI 4 22 [] (b19 c) false,
 λc=>bI 3 18 [] (b20 c) false,
 λc=>bI 1 17 [] (b21 c) false,
 λc=>bI 2 14 [] (b22 c) false,
 λc=>bI 2 14 [] (b23 c) false,
 λc=>bI 2 15 [] (b24 c) false,
 λc=>bI 3 16 [] (b25 c) false,
 λc=>bI 3 16 [] (b26 c) false,
 λc=>bI 3 16 [] (b27 c) false,
 λc=>bI 3 16 [] (b28 c) false,
 λc=>bI 3 21 [] (b29 c) false,
 λc=>bI 2 17 [] (b30 c) false,
 λc=>bI 4 19 [] (b31 c) false,
 λc=>bI 5 23 [.none] (b32 c) false,
 λc=>bI 2 19 [] (b33 c) false,
 λc=>bI 2 17 [] (b34 c) false,
 λc=>bI 1 13 [] (b35 c) false,
 λc=>bI 1 13 [] (b36 c) false,
 λc=>bI 3 18 [] (b37 c) false,
 λc=>bI 1 14 [] (b38 c) false,
 λc=>bI 1 14 [] (b39 c) false,
 λc=>bI 1 13 [] (b40 c) false,
 λc=>bI 2 16 [] (b41 c) false,
 λc=>bI 2 17 [] (b42 c) false,
 λc=>bI 3 18 [] (b43 c) false,
 λc=>bI 3 18 [] (b44 c) false,
 λc=>bI 2 16 [] (b45 c) false,
 λc=>bI 3 16 [] (b46 c) false,
 λc=>bI 1 14 [] (b47 c) false,
 λc=>bI 2 19 [] (b48 c) false,
 λc=>bI 2 16 [] (b49 c) false,
 λc=>bI 2 15 [] (b50 c) false,
 λc=>bI 2 14 [] (b51 c) false,
 λc=>bI 3 17 [] (b52 c) false,
 λc=>bI 2 16 [] (b53 c) false,
 λc=>bI 2 18 [] (b54 c) false,
 λc=>bI 1 13 [] (b55 c) true,
 λc=>bI 2 17 [] (b56 c) false,
 λc=>bI 2 14 [] (b57 c) false,
 λc=>bI 3 16 [] (b58 c) false,
 λc=>bI 3 20 [] (b59 c) false,
 λc=>bI 1 20 [] (b60 c) true,
 λc=>bI 1 16 [] (b61 c) false,
 λc=>bI 4 16 [] (b62 c) false,
 λc=>bI 1 24 [] (b63 c) false,
 λc=>bI 2 18 [] (b64 c) false,
 λc=>bI 3 15 [] (b65 c) false,
 λc=>bI 4 16 [] (b66 c) false,
 λc=>bI 2 15 [] (b67 c) false,
 λc=>bI 2 14 [] (b68 c) false,
 λc=>bI 1 13 [] (b69 c) false,
 λc=>bI 1 14 [] (b70 c) false,
 λc=>bI 1 14 [] (b71 c) false,
 λc=>bI 1 13 [] (b72 c) false]
theorem JP:(List.range 73).map cg=JQ.map λg=>some λc=>oz (g c):=by kernel_rfl
noncomputable def fn(id:Nat):aD->List V->az->aR V:=(JQ[id]?).getD λ_ _ _=> .stuck
theorem UH{id:Nat}(h:Nat.blt id 73=true):cg id=some λc=>oz (fn id c):=by
 have h:id < 73:=g7 h;have e:=congrArg (λZ=>Z[id]?) JP;rw[gB,gB,List.getElem?_range h]at e;have hl:id < JQ.length:=h;rw[je hl]at e;refine(iQ e).trans ?_;unfold fn;rw[je hl]
 rfl
theorem FH{id n:Nat}(h:Nat.blt id 73=true):run (n+1) id=oz (fn id (run n)):=by
 funext args o
 show(match cg id with |some g=>g (run n) args o |none=> .stuck)=_;rw[UH h]
theorem Wa{r:aR α}(h:r= .ok x o)(h2:k x o=R):r.bind k=R:=by rw[h];exact h2
theorem SN(h:g dR o₀=r)(hp:l8 o (idxOf args)=some o₀)(ha:args.map (V.Ag ((idxOf args).idxOf ·))=dR)(hf:o.all aH.aY=true):oz g args o=rF o (idxOf args) r:=by
 unfold oz CR;rw[hp,ha];show bz (o.all aH.aY) _=_;rw[hf,h]
 rfl
theorem bu{id n:Nat}(h:fn id (run n) dR o₀=r)(uH:Nat.blt id 73=true)(hp:l8 o (idxOf args)=some o₀)(ha:args.map (V.Ag ((idxOf args).idxOf ·))=dR)(hf:o.all aH.aY=true)(hr:rF o (idxOf args) r= .ok v o'):run (n+1) id args o= .ok v o':=by
 rw[FH uH,SN h hp ha hf,hr]
noncomputable abbrev sh:V:= .bV 2 (.h 3)
noncomputable abbrev O4(T R:List (aG×D)):az:=[.tab 0, .tab 1, .dict .ki T, .dict .ks R]
section
variable{α β:Type}{o o1 o2 o3:az}{loc iW:bL}{v v1 v2 a b:V}{i:Nat}{x:Ex}{vs:List V}{ds:List D}{bb:Bool}{R RV:aR V}{RF:aR Fo}{RB:aR Bool}{f g e:DE}{fs:ug}{t u:DT}{A B:DS}{op:V->V->az->aR V}{gg:List V->az->aR V}
theorem gj{r:aR α}{k:α->az->aR β}{y:α}{R:aR β}(h:r= .ok y o)(h2:k y o=R):r.bind k=R:=by rw[h];exact h2
theorem aA(h:A loc o= .ok (.next iW) o1)(h2:B iW o1=RF):ao A B loc o=RF:=gj h h2
theorem bG(h:A loc o= .ok (.ret v) o1):ao A B loc o= .ok (.ret v) o1:=gj h rfl
theorem AM(h:A loc o= .exc x o1):ao A B loc o= .exc x o1:=by unfold ao;rw[h];rfl
theorem asg(h:f loc o= .ok v o1):ay i f loc o= .ok (.next (loc.set i (some v))) o1:=gj h rfl
theorem ly(h:t loc o= .ok true o1)(h2:A loc o1=RF):dw t A B loc o=RF:=gj h h2
theorem ez(h:t loc o= .ok false o1)(h2:B loc o1=RF):dw t A B loc o=RF:=gj h h2
theorem bZ(h:f loc o= .ok v o1):aX f loc o= .ok (.ret v) o1:=gj h rfl
theorem iX(h:f loc o= .ok v o1):cU f loc o= .ok (.next loc) o1:=gj h rfl
theorem aN(h:f loc o= .ok a o1)(h2:g loc o1= .ok b o2)(h3:op a b o2=R):aB op f g loc o=R:=gj h (gj h2 h3)
theorem aQ(h:f loc o= .ok a o1)(h2:g loc o1= .ok b o2)(h3:op a b o2= .ok v o3)(h4:DG v o3=RB):aE op f g loc o=RB:=gj (aN h h2 h3) h4
theorem eO(h:f loc o= .ok v o1)(h2:DG v o1=RB):dG f loc o=RB:=gj h h2
theorem Gu(h:t loc o= .ok false o1):pM t loc o= .ok true o1:=gj h rfl
theorem wJ(h:t loc o= .ok true o1):pM t loc o= .ok false o1:=gj h rfl
theorem oM(h:t loc o= .ok true o1)(h2:u loc o1=RB):gS t u loc o=RB:=gj h h2
theorem q8(h:t loc o= .ok false o1):gS t u loc o= .ok false o1:=gj h rfl
theorem wG(h:t loc o= .ok false o1)(h2:u loc o1=RB):pL t u loc o=RB:=gj h h2
theorem VU(h:t loc o= .ok true o1):pL t u loc o= .ok true o1:=gj h rfl
theorem mj(h:t loc o= .ok true o1)(h2:f loc o1=R):eW t f g loc o=R:=gj h h2
theorem lu(h:t loc o= .ok false o1)(h2:g loc o1=R):eW t f g loc o=R:=gj h h2
theorem aj(h:f loc o= .ok v o1)(h2:fs loc o1= .ok vs o2):aa f fs loc o= .ok (v::vs) o2:=gj h (gj h2 rfl)
theorem au(h:fs loc o= .ok vs o1)(h2:gg vs o1=R):aq gg fs loc o=R:=gj h h2
theorem aL(h:f loc o= .ok v o1)(h2:sel v o1=true)(h3:fs loc o1= .ok vs o2)(h4:gg (v::vs) o2=R):aO sel gg f fs loc o=R:=gj h (by show bz _ _=_;rw[h2];exact gj h3 h4)
theorem di(h:f loc o= .ok v o1)(h2:By y v o1=R):bq y f loc o=R:=gj h h2
theorem OO(h:fs loc o= .ok vs o1)(h2:jD vs o1= .ok ds o2)(h3:c6 ds.length=true)(h4:mk ds o2=R):Cg mk fs loc o=R:=gj h (gj h2 (by show bz _ _=_;rw[h3];exact h4))
theorem eH(h:fs loc o= .ok vs o1)(h2:jD vs o1= .ok ds o2)(h3:c6 ds.length=true):cB fs loc o= .ok (.d (.tup ds)) o2:=OO h h2 h3 rfl
theorem kF(h:fs loc o= .ok vs o1)(h2:jD vs o1= .ok ds o2)(h3:c6 ds.length=true):d8 false fs loc o= .ok (.d (.list ds)) o2:=OO h h2 h3 rfl
theorem yQ(h:fs loc o= .ok vs o1)(h2:jD vs o1= .ok ds o2)(h3:c6 ds.length=true):d8 true fs loc o= .ok (.h o2.length) (o2++[.list ds]):=OO h h2 h3 rfl
theorem h_{d:D}{o4 o5:az}(h:f loc o= .ok v o1)(h2:g loc o1= .ok a o2)(h3:e loc o2= .ok b o3)(h4:rC v o3= .ok d o4)(h5:lH a b d o4= .ok () o5):iu f g e loc o= .ok (.next loc) o5:=gj h (gj h2 (gj h3 (gj h4 (gj h5 rfl))))
theorem fh(h:A ((args++fW.map V.d).map some++List.replicate (n - k) none) o= .ok (.ret v) o1)(hk:decide (args.length+fW.length=k)=true)(h2:iP keep o.length v o1=R):bI k n fW A keep args o=R:=by
 unfold bI;rw[hk,h];exact h2
theorem xh(h:A ((args++fW.map V.d).map some++List.replicate (n - k) none) o= .ok (.next loc) o1)(hk:decide (args.length+fW.length=k)=true)(h2:iP keep o.length (.d .none) o1=R):bI k n fW A keep args o=R:=by
 unfold bI;rw[hk,h];exact h2
theorem dH{id:Nat}(h:JQ[id]? =some G)(h2:G c args o=R):fn id c args o=R:=by unfold fn;rw[h];exact h2
end
section
variable{α β:Type}{o o1 o2 o3:az}{loc iW Pq:bL}{v v1 v2 a b:V}{i:Nat}{x:Ex}{vs vs':List V}{ds:List D}{pn:Option Nat}{R RV:aR V}{RF:aR Fo}{RB:aR Bool}{f g e:DE}{fs:ug}{t u:DT}{A B:DS}{it:DI}{bd:V->bL->az->aR bL}{c:TC}
theorem gV(h:f loc o= .ok v o1)(h2:bx (uW o1 v) (λt=>l9 (PG c t) o1)=R):fz c f loc o=R:=gj h h2
theorem lW(h:f loc o= .ok v o1)(h2:bd v loc o1= .ok iW o2):dN bd f loc o= .ok (.next iW) o2:=gj h (by show(quiet _).bind _=_;rw[h2];rfl)
theorem mw(h1:it loc o= .ok (vs,pn) o1)(h2:jb pn bd A vs loc o1=RF):kN it bd A loc o=RF:=gj h1 h2
theorem CT(h1:bd v loc o= .ok iW o1)(h2:A iW o1= .ok (.ret a) o2):jb none bd A (v::vs) loc o= .ok (.ret a) o2:=by
 show(quiet _).bind _=_;rw[h1];show(quiet (A iW o1)).bind _=_;rw[h2];rfl
theorem fH(h1:bd v loc o= .ok iW o1)(h2:A iW o1= .ok (.next Pq) o2)(h3:jb none bd A vs Pq o2=RF):jb none bd A (v::vs) loc o=RF:=by
 show(quiet _).bind _=_;rw[h1];show(quiet (A iW o1)).bind _=_;rw[h2];exact h3
theorem oh(h:fs loc o= .ok vs o1)(h2:MB vs=some r)(h3:MA r=true):eE fs loc o= .ok (jV r.1 r.2.2 (Builtin.Range.rangeSize r.1 r.2.1 r.2.2).toNat,none) o1:=gj h (by unfold Y9;rw[h2];show bz _ _=_;rw[h3];rfl)
end
section
variable{n:Nat}{T R l:List (aG×D)}{k:Str}{v d e z:D}{o:az}{i j g:Int}
noncomputable abbrev rf(n g:Int):D:= .inst .reference [.int n, .int g]
noncomputable abbrev fK(g:Int)(d:D):D:= .tup [.int g,d]
noncomputable def NR(v:D):Prop:=∀o:az,bx (uW o (.d v)) (λt=>l9 (PG (.cls .reference) t) o)= .ok (.d (.bool false)) o
theorem Zc:gA (.d (.int i)) (.d (.int i)) o= .ok (.d (.bool false)) o:=by
 show bx (some (decide (i=i))) _=_;rw[cM rfl];rfl
theorem XA(h:aJ T (.int i)=some d):pF [.h 2, .d (.int i), .d z] (O4 T R)= .ok (.d d) (O4 T R):=by
 show Cr _ ((aJ T (.int i)).getD z)=_;rw[h];rfl
inductive q_(T:List (aG×D)):Nat->D->D->Prop
 |here {k:Nat} {v:D} (h:NR v):q_ T k v v
 |go {k:Nat} {n g:Int} {d e:D} (h:aJ T (.int n)=some (fK g d)) (r:q_ T k d e):q_ T (k+1) (rf n g) e
theorem HQ{k:Nat}(h:q_ T k v e):∀{vs:List V}{x a3 a4 a5:Option V}{tl:bL},k < vs.length->jb none (aU 3) (MX (run n)) vs (some sh::x::some (.d v)::a3::a4::a5::tl) (O4 T R)= .ok (.ret (.d e)) (O4 T R):=by
 induction h with
 |here h=>
  intro vs x a3 a4 a5 tl hk;cases vs with
  |nil=>cases hk
  |cons u vs=>exact CT rfl (bG (ly (Gu (eO (gV rfl (h _)) rfl)) (bG (bZ rfl))))
 |go h r ih=>
  intro vs x a3 a4 a5 tl hk;cases vs with
  |nil=>cases hk
  |cons u vs=>exact fH rfl (aA (ez (wJ (eO (gV rfl rfl) rfl)) rfl) (aA (lW (aL rfl rfl rfl (XA h)) rfl) (aA (ez (aQ rfl rfl Zc rfl) rfl) (aA (asg rfl) rfl)))) (ih (vY hk))
theorem ZN{k:Nat}(h:q_ T k v e)(hk:k < 30):fn 64 (run n) [sh, .d v] (O4 T R)= .ok (.d e) (O4 T R):=
 dH rfl (fh (aA (asg rfl) (bG (mw (oh rfl rfl rfl) (HQ h hk)))) rfl rfl)
theorem Ao{k:Nat}(h:q_ T k v e)(hk:k < 30):run (n+1) 64 [sh, .d v] (O4 T R)= .ok (.d e) (O4 T R):=bu (ZN h hk) rfl rfl rfl rfl rfl
theorem HU{k:Nat}(hx:keyOf .ks kk=some x)(hv:(aJ l x).getD .none=v)(h:q_ T k v e)(hk:k < 30):fn 65 (run (n+1)) [sh, .d (.dict .ks l), .d kk] (O4 T R)= .ok (.d e) (O4 T R):=
 dH rfl (fh (bG (bZ (aL rfl rfl (aj (aL rfl rfl (aj rfl rfl) (show _=aR.ok (V.d v) _ from by show(bx (keyOf .ks kk) _)=_;rw[hx];exact congrArg (λd=>aR.ok (V.d d) _) hv)) rfl) (Ao h hk)))) rfl rfl)
theorem Um(ht:c6 T.length=true):fn 66 (run n) [sh, .d (.int i), .d (.int g), .d d] (O4 T R)= .ok (.d .none) (O4 (b_ T (.int i) (fK g d)) R):=
 dH rfl (xh (aA (h_ (eH rfl rfl rfl) rfl rfl rfl (by show bz (c6 T.length) _=_;rw[ht];rfl)) rfl) rfl rfl)
end
section
variable{o o1 o2 o3:az}{loc iW Pq:bL}{v v1 v2 a b:V}{x:Ex}{vs vs':List V}{R RV:aR V}{RF:aR Fo}{f g e:DE}{t u:DT}{A B:DS}{m:Nat}
theorem BG(h:f loc o= .ok v o1)(h2:DG v o1= .ok true o2)(h3:g loc o2=R):tM f g loc o=R:=gj h (gj h2 h3)
theorem Yq(h:f loc o= .ok v o1)(h2:DG v o1= .ok false o2):tM f g loc o= .ok v o2:=gj h (gj h2 rfl)
theorem yg(h:t loc o= .ok true o1)(h2:A loc o1= .ok (.next iW) o2)(h3:eB t A m iW o2=RF):eB t A (m+1) loc o=RF:=by
 show(quiet (t loc o)).bind _=_;rw[h];show(quiet (A loc o1)).bind _=_;rw[h2];exact h3
theorem DA(h:t loc o= .ok false o1):eB t A (m+1) loc o= .ok (.next loc) o1:=by
 show(quiet (t loc o)).bind _=_;rw[h];rfl
theorem aah(h:t loc o= .ok true o1)(h2:A loc o1= .ok (.ret v) o2):eB t A (m+1) loc o= .ok (.ret v) o2:=by
 show(quiet (t loc o)).bind _=_;rw[h];show(quiet (A loc o1)).bind _=_;rw[h2];rfl
end
section
variable{n k:Nat}{T R l hd N:List (aG×D)}{v d e z:D}{o:az}{i j g g':Int}{x:aG}
noncomputable def Wl(o:az)(T:List (aG×D)):Prop:=o[2]? =some (.dict .ki T)
theorem Pg(h:Wl o T):cH o (.h 2)=some (.ki,T):=by show((o[2]?.map rO).bind _)=_;rw[h];rfl
theorem Xf(h:Wl o T)(q:aJ T (.int i)=some d):uK (.d (.int i)) (.h 2) o= .ok (.d (.bool true)) o:=by
 unfold uK zI;rw[Pg h];show l9 (aJ T (.int i)).isSome o=_;rw[q];rfl
theorem Zt(h:Wl o T)(q:aJ T (.int i)=none):uK (.d (.int i)) (.h 2) o= .ok (.d (.bool false)) o:=by
 unfold uK zI;rw[Pg h];show l9 (aJ T (.int i)).isSome o=_;rw[q];rfl
theorem G8(h:Wl o T)(q:aJ T (.int i)=some d):aC (.h 2) (.d (.int i)) o= .ok (.d d) o:=by
 unfold aC;rw[Pg h];show bx (aJ T (.int i)) _=_;rw[q];rfl
theorem f5T(q:aJ T (.int i)=some (fK g' d)):fn 5 (run n) [sh, .d (.tup [.int i, .int g])] (O4 T R)= .ok (.d (.bool (decide (g'=g)))) (O4 T R):=
 dH rfl (fh (aA (lW rfl rfl) (bG (bZ (BG (aN rfl (di rfl rfl) (Xf rfl q)) rfl (aN (aN (aN (di rfl rfl) rfl (G8 rfl q)) rfl rfl) rfl rfl))))) rfl rfl)
theorem f5F(q:aJ T (.int i)=none):fn 5 (run n) [sh, .d (.tup [.int i, .int g])] (O4 T R)= .ok (.d (.bool false)) (O4 T R):=
 dH rfl (fh (aA (lW rfl rfl) (bG (bZ (Yq (aN rfl (di rfl rfl) (Zt rfl q)) rfl)))) rfl rfl)
theorem f68(ht:c6 T.length=true)(q:aJ T (.int i)=some d):fn 68 (run n) [sh, .d (.int i)] (O4 T R)= .ok (.d .none) (O4 (Bf T (.int i)) R):=
 dH rfl (xh (aA (ly (aQ rfl (di rfl rfl) (Xf rfl q) rfl) (aA (iX (aL (di rfl rfl) rfl (aj rfl rfl) (by
  show bx (aJ T (.int i)) (λd=>bz (c6 T.length) _)=_;rw[q];show bz (c6 T.length) _=_;rw[ht];rfl))) rfl)) rfl) rfl rfl)
theorem zy:∀(k:Nat){j:Int}{m:Nat}{tl:bL},(∀a:Nat,a < k->∃d,aJ T (.int (j+a))=some d)->aJ T (.int (j+k))=none->k < m->
  eB (aE uK (af 2) (bq "table" (af 0))) (MW (run n)) m (some sh::some (.d v)::some (.d (.int j))::tl) (O4 T R)= .ok (.next (some sh::some (.d v)::some (.d (.int (j+k)))::tl)) (O4 T R)
 | 0,j,m+1,tl,_,h,_=>by
  rw[show j+((0:Nat):Int)=j from Int.add_zero j]at h⊢;exact DA (aQ rfl (di rfl rfl) (Zt rfl h) rfl)
 |k+1,j,m+1,tl,hs,h,hk=>by
  obtain⟨d,hd⟩:=hs 0 (Nat.succ_pos _);rw[show j+((0:Nat):Int)=j from Int.add_zero j]at hd;have e:∀a:Nat,j+((a+1:Nat):Int)=j+1+(a:Int):=λa=>by exact(congrArg (λZ=>j+Z) (Int.add_comm (a:Int) 1)).trans (Int.add_assoc j 1 a).symm
  rw[e k]at h⊢;exact yg (aQ rfl (di rfl rfl) (Xf rfl hd) rfl) (aA (asg (aN rfl rfl rfl)) rfl) (zy k (λa ha=>e a▸hs (a+1) (Nat.succ_lt_succ ha)) h (vY hk))
theorem ZM(ht:c6 T.length=true)(hs:∀a:Nat,a < k->∃d,aJ T (.int (1+a))=some d)(h:aJ T (.int (1+k))=none)(hk:k < 100):
  fn 67 (run n) [sh, .d v] (O4 T R)= .ok (.d (rf (1+k) 0)) (O4 (b_ T (.int (1+k)) (fK 0 v)) R):=
 dH rfl (fh (aA (asg rfl) (aA (zy k hs h hk) (aA (h_ (eH (aj rfl (aj rfl rfl)) rfl rfl) (di rfl rfl) rfl rfl (by show bz (c6 T.length) _=_;rw[ht];rfl)) (bG (bZ (au rfl rfl)))))) rfl rfl)
noncomputable def Ky(T:List (aG×D)):List D:=gH (Aj mh.κ mh.key) (T.map λp=>cQ p.1)
theorem ZL(hl:Nat.blt T.length 64=true)(hi:T.all (λp=>(cQ p.1).int?.isSome)=true):fn 69 (run n) [sh] (O4 T R)= .ok (.d (.list (Ky T))) (O4 T R):=
 dH rfl (fh (bG (bZ (au (aj (di rfl rfl) rfl) (by
  show jf (T.map λp=>cQ p.1) _=_;unfold jf;rw[cO,hl];show(if _ then _ else _)=_;rw[List.all_map];exact bw hi)))) rfl rfl)
theorem XJ(hx:keyOf .ks kk=some x)(hv:(aJ R x).getD .none=v)(h:q_ T k v e)(hk:k < 30):fn 65 (run (n+1)) [sh, .h 3, .d kk] (O4 T R)= .ok (.d e) (O4 T R):=
 dH rfl (fh (bG (bZ (aL rfl rfl (aj (aL rfl rfl (aj rfl rfl) (show _=aR.ok (V.d v) _ from by show(bx (keyOf .ks kk) _)=_;rw[hx];exact congrArg (λd=>aR.ok (V.d d) _) hv)) rfl) (Ao h hk)))) rfl rfl)
theorem f70(hv:(aJ R (.str "Root")).getD .none=v)(h:q_ T k v (.dict .ks hd))(hk:k < 30):fn 70 (run (n+2)) [sh] (O4 T R)= .ok (.d (.dict .ks hd)) (O4 T R):=
 dH rfl (fh (aA (asg (aL rfl rfl (aj (di rfl rfl) (aj rfl rfl)) (bu (XJ rfl hv h hk) rfl rfl rfl rfl rfl))) (bG (bZ (mj (eO (gV rfl rfl) rfl) rfl)))) rfl rfl)
theorem JC(hv:(aJ R (.str "Root")).getD .none=v)(h:q_ T k v (.dict .ks hd))(hk:k < 30):run (n+3) 70 [sh] (O4 T R)= .ok (.d (.dict .ks hd)) (O4 T R):=bu (f70 hv h hk) rfl rfl rfl rfl rfl
inductive Vm(T:List (aG×D)):Nat->D->D->Prop
 |here {k:Nat} {n g g':Int} {d:D} (h:aJ T (.int n)=some (fK g' d)) (nr:NR d):Vm T k (rf n g) (rf n g)
 |go {k:Nat} {n g g' m g2:Int} {e:D} (h:aJ T (.int n)=some (fK g' (rf m g2))) (r:Vm T k (rf m g2) e):Vm T (k+1) (rf n g) e
theorem O1(nr:NR d)(q:aJ T (.int i)=some (fK g' d)):pL (aE Lx (af 2) (ai (.none))) (pL (pM (dG (fz (.cls .reference) (aB aC (aB aC (bq "table" (af 0)) (bq "number" (af 2))) (ai (.int 1)))))) gR) (some sh::a::some (.d (rf i g))::tl) (O4 T R)= .ok true (O4 T R):=
 wG (aQ rfl rfl rfl rfl) (VU (Gu (eO (gV (aN (aN (di rfl rfl) (di rfl rfl) (G8 rfl q)) rfl rfl) (nr _)) rfl)))
theorem GX(h:Vm T k v e):∀{vs:List V}{x a3:Option V}{tl:bL},k < vs.length->jb none (aU 3) (M0 (run n)) vs (some sh::x::some (.d v)::a3::tl) (O4 T R)= .ok (.ret (.d e)) (O4 T R):=by
 induction h with
 |here h nr=>
  intro vs x a3 tl hk;cases vs with
  |nil=>cases hk
  |cons u vs=>exact CT rfl (bG (ly (O1 nr h) (bG (bZ rfl))))
 |go h r ih=>
  intro vs x a3 tl hk;cases vs with
  |nil=>cases hk
  |cons u vs=>exact fH rfl (aA (ez (wG (aQ rfl rfl rfl rfl) (wG (wJ (eO (gV (aN (aN (di rfl rfl) (di rfl rfl) (G8 rfl h)) rfl rfl) rfl) rfl)) rfl)) rfl) (aA (asg (aN (aN (di rfl rfl) (di rfl rfl) (G8 rfl h)) rfl rfl)) rfl)) (ih (vY hk))
theorem XZ(h:Vm T k (rf i g) e)(hk:k < 30):fn 45 (run n) [sh, .d (rf i g)] (O4 T R)= .ok (.d e) (O4 T R):=
 dH rfl (fh (aA (asg (mj (eO (gV rfl rfl) rfl) rfl)) (bG (mw (oh rfl rfl rfl) (GX h hk)))) rfl rfl)
end
noncomputable abbrev O2:az:=[.tab 0, .tab 1]
noncomputable abbrev pd(p:Int×Int):D:= .tup [.int p.1, .int p.2]
noncomputable abbrev pt(p:Int×Int):(Int×Int)×D:=(p, .bool true)
noncomputable def Pt(d:D)(L:List D):Prop:=∀n,fn 3 (run (n+3)) [.d d] O2= .ok (.d (.list L)) O2
inductive rH:List D->List (Int×Int)->Nat->Prop
 |nil:rH [] [] 0
 |ref {n g:Int} {L:List D} {rs:List (Int×Int)} {k:Nat} (h:rH L rs k):rH (rf n g::L) ((n,g)::rs) (k+1)
 |node {d:D} {P L:List D} {ps rs:List (Int×Int)} {j k:Nat} (h1:NR d) (h2:Pt d P) (h3:rH P ps j) (h4:rH L rs k):rH (d::L) (ps++rs) (j+k+1)
theorem rH.app(h:rH P ps j)(h':rH L rs k):rH (P++L) (ps++rs) (j+k):=by
 induction h with
 |nil=>rw[jQ];exact h'
 |ref _ ih=>rw[Nat.succ_add];exact .ref ih
 |node h1 h2 h3 _ _ ih=>rw[jA,Nat.succ_add,oS];exact .node h1 h2 h3 ih
theorem rH.len(h:rH L rs k):L.length<=k/\rs.length<=k:=by
 induction h with
 |nil=>exact⟨Nat.le_refl _,Nat.le_refl _⟩
 |ref _ ih=>exact⟨kX ih.1,kX ih.2⟩
 |node _ _ _ _ i1 i2=>exact⟨kX (cS i2.1 (uq _ _)),by rw[dJ];exact Nat.le_succ_of_le (Nat.add_le_add i1.2 i2.2)⟩
noncomputable def j9(F:List (Int×Int)):List (Int×Int)->List (Int×Int)
 | []=>F
 |p::r=>j9 (if p ∈ F then F else F++[p]) r
theorem IF:∀(r s F:List (Int×Int)),j9 F (r++s)=j9 (j9 F r) s
 | [],_,_=>rfl
 |_::r,s,_=>IF r s _
theorem jx:∀{r F:List (Int×Int)},q ∈ j9 F r↔q ∈ F\/q ∈ r
 | [],F=>⟨.inl,λh=>h.elim id λh=>nomatch h⟩
 |p::r,F=>by
  refine(jx (r:=r)).trans ?_;rw[cN]
  by_cases h:p ∈ F
  ·rw[bw h];exact⟨λx=>x.imp id .inr,λx=>x.elim .inl λy=>y.elim (λe=> .inl (e▸h)) .inr⟩
  ·rw[aZ h,gU,dQ,or_assoc]
theorem xK:∀{r F:List (Int×Int)},F.Nodup->(j9 F r).Nodup
 | [],_,h=>h
 |p::r,F,h=>by
  refine xK (r:=r) ?_
  by_cases q:p ∈ F
  ·rw[bw q];exact h
  ·rw[aZ q];exact nk.mpr ⟨h,fU.mpr ⟨(λh=>nomatch h),nh⟩,λa ha b hb e=>q (by rw[<-dQ.mp hb, <-e];exact ha)⟩
theorem m6:∀{F:List (Int×Int)},aJ (F.map pt) p=if p ∈ F then some (.bool true)else none
 | []=>rfl
 |q::F=>by
  show(match decide (q=p)with |true=>some (pt q) |false=>(F.map pt).find? _).map _=_
  by_cases h:q=p
  ·rw[cM h,bw (h▸ .head _)];rfl
  ·rw[fM h];refine(m6 (F:=F)).trans ?_
   by_cases h2:p ∈ F
   ·rw[bw h2,bw (.tail _ h2)]
   ·rw[aZ h2,aZ λx=>(cN.mp x).elim (λe=>h e.symm) h2]
section
variable{n m:Nat}{F:List (Int×Int)}{p:Int×Int}{L P:List D}{a0 x4:Option V}{tl:bL}{os:az}{i g:Int}{l:List D}{b:Bool}{d:D}
noncomputable abbrev O5(F:List (Int×Int))(L:List D)(os:az):az:= .tab 0:: .tab 1:: .list (F.map pd):: .bO (F.map pt):: .list L::os
theorem bR(h:k < 1000000):c6 k=true:=Nat.ble_eq_true_of_le (jz h)
theorem cC{id:Nat}(h:fn id (run n) args O2= .ok (.d d) O2)(uH:Nat.blt id 73=true)(ha:idxOf args=[0,1])(hr:args.map (V.Ag (([0,1]:List Nat).idxOf ·))=args)(hf:os.all aH.aY=true):run (n+1) id args (.tab 0:: .tab 1::os)= .ok (.d d) (.tab 0:: .tab 1::os):=
 bu (dR:=args) (o₀:=O2) h uH (by rw[ha];rfl) (by rw[ha];exact hr) hf (by
  rw[ha];show aR.ok (V.d d) (.tab 0:: .tab 1::(os++[]))=_;rw[fC])
theorem V9(hf:os.all aH.aY=true):run (n+1) 72 [.d (rf i g)] (.tab 0:: .tab 1::os)= .ok (.d (pd (i,g))) (.tab 0:: .tab 1::os):=
 cC (dH rfl (fh (bG (bZ (eH (aj (di rfl rfl) (aj (di rfl rfl) rfl)) rfl rfl))) rfl rfl)) rfl rfl rfl hf
theorem MJ(h:p ∈ F↔b=true):dX (.d (pd p)) (.h 3) (O5 F L os)= .ok (.d (.bool (!b))) (O5 F L os):=by
 show l9 (!(aJ (F.map pt) (p.1,p.2)).isSome) _=_;rw[show(p.1,p.2)=p from rfl,m6]
 by_cases q:p ∈ F
 ·rw[bw q,h.mp q];rfl
 ·rw[aZ q,Bool.eq_false_iff.mpr λe=>q (h.mpr e)];rfl
theorem OG(h:p ∉ F)(hl:F.length < 1000000):lH (.h 3) (.d (pd p)) (.bool true) (O5 F L os)= .ok () (.tab 0:: .tab 1:: .list (F.map pd):: .bO ((F++[p]).map pt):: .list L::os):=by
 show bz (c6 (F.map pt).length) (.ok () (.tab 0:: .tab 1:: .list (F.map pd):: .bO (b_ (F.map pt) (p.1,p.2) (.bool true)):: .list L::os))=_;rw[show(p.1,p.2)=p from rfl,cO,bR hl];unfold b_;rw[m6,aZ h,fZ];rfl
theorem Yp(hl:F.length < 1000000):fG (.h 2) (.d (pd p)) (.tab 0:: .tab 1:: .list (F.map pd):: .bO S:: .list L::os)= .ok (.d .none) (.tab 0:: .tab 1:: .list ((F++[p]).map pd):: .bO S:: .list L::os):=by
 show bz (c6 (F.map pd).length) (aR.ok (V.d .none) (.tab 0:: .tab 1:: .list (F.map pd++[pd p]):: .bO S:: .list L::os))=_;rw[cO,bR hl,fZ];rfl
theorem R3(hl:L.length < 999999):Br (.h 4) (O5 F (L++[d]) os)= .ok (.d d) (O5 F L os):=by
 show bx (L++[d]).getLast? (λx=>bz (c6 (L++[d]).length) (aR.ok (V.d x) (O5 F (L++[d]).dropLast os)))=_;rw[List.getLast?_concat,List.dropLast_concat,dJ];show bz (c6 (L.length+1)) _=_;rw[bR (Nat.succ_lt_succ hl)];rfl
theorem Oo(hl:L.length < 1000000)(hb:(!L.isEmpty)=b):DG (.h 4) (O5 F L os)= .ok b (O5 F L os):=by
 show bz (c6 L.length) (.ok (!L.isEmpty) _)=_;rw[bR hl,hb];rfl
theorem Lf:∀(o:az),(o++[x])[o.length]? =some x:=λo=>by rw[Az (Nat.le_refl _),Nat.sub_self];rfl
theorem Cd:∀(o:az),(o++[x]).set o.length y=o++[y]
 | []=>rfl
 |a::o=>congrArg (λZ=>a::Z) (Cd o)
theorem X8(hl:L.length+P.length < 1000000):jL (.h 4) (.h (O5 F L os).length) (O5 F L os++[aH.rev P])= .ok (.d .none) (O5 F (L++P.reverse) (os++[.dead])):=by
 unfold jL;show bx ((O5 F L os++[aH.rev P])[(O5 F L os).length]?.map λx=>((O5 F L os).length,x)) _=_;rw[Lf];show bx (Bo ((O5 F L os++[aH.rev P]).set (O5 F L os).length .dead) (.h 4)) (λp=>bz (c6 (p.2.length+P.reverse.length)) (aR.ok (V.d .none) (((O5 F L os++[aH.rev P]).set (O5 F L os).length .dead).set p.1 (.list (p.2++P.reverse)))))=_;rw[Cd];show bz (c6 (L.length+P.reverse.length)) (aR.ok (V.d .none) (O5 F (L++P.reverse) (os++[.dead])))=_;rw[uz,bR hl];rfl
theorem Ef(h:os.all aH.aY=true):(os++[aH.dead]).all aH.aY=true:=by rw[List.all_append,h];rfl
theorem mU:∀(k:Nat){S:List D}{rs F:List (Int×Int)}{m:Nat}{os:az}{x4:Option V},rH S rs k->k < m->F.length+k < 100000->os.all aH.aY=true->
  ∃y4 os',eB (dG (af 3)) (Td (run (n+4))) m (a0::some (.h 2)::some (.h 3)::some (.h 4)::x4::tl) (O5 F S.reverse os)= .ok (.next (a0::some (.h 2)::some (.h 3)::some (.h 4)::y4::tl)) (O5 (j9 F rs) [] os')
 |k,S,rs,F,m+1,os,x4,h,hm,hF,hs=>by
  have hz:=h.len;clear hz;cases h with
  |nil=>exact⟨_,_,DA (eO rfl (Oo (Nat.zero_lt_succ _) rfl))⟩
  | @ref i g L rs k h=>
   have hL:L.length < 100000:=eG (cS h.len.1 (cS (oR _) (uq _ _))) hF;have ZD:F.length < 1000000:=eG (fN _ _) (d9 hF (by decide));have t1:dG (af 3) (a0::some (.h 2)::some (.h 3)::some (.h 4)::x4::tl) (O5 F (rf i g::L).reverse os)= .ok true (O5 F (L.reverse++[rf i g]) os):=by
    rw[List.reverse_cons];exact eO rfl (Oo (by rw[dJ,uz];exact d9 (Nat.succ_lt_succ hL) (by decide)) (by cases L.reverse<;>rfl))
   have pp:Br (.h 4) (O5 F (L.reverse++[rf i g]) os)= .ok (.d (rf i g)) (O5 F L.reverse os):=R3 (by rw[uz];exact d9 hL (by decide))
   by_cases q:(i,g) ∈ F
   ·obtain⟨y4,os',e⟩:=mU k (m:=m) (F:=F) (x4:=some (.d (rf i g))) h (vY hm) (vU hF) hs;refine⟨y4,os',yg t1 (aA (asg (aL rfl rfl rfl pp)) (aA (ly (eO (gV rfl rfl) rfl) (aA (ez (aQ (aL rfl rfl rfl (V9 hs)) rfl (MJ (b:=true) ⟨λZ=>rfl,λZ=>q⟩) rfl) rfl) rfl)) rfl)) ?_⟩;show _=aR.ok _ (O5 (j9 (if(i,g) ∈ F then F else F++[(i,g)]) rs) [] os');rw[bw q];exact e
   ·obtain⟨y4,os',e⟩:=mU k (m:=m) (F:=F++[(i,g)]) (x4:=some (.d (rf i g))) h (vY hm) (by rw[dJ];exact(Nat.succ_add F.length k).symm▸hF) hs;refine⟨y4,os',yg t1 (aA (asg (aL rfl rfl rfl pp)) (aA (ly (eO (gV rfl rfl) rfl) (aA (ly (aQ (aL rfl rfl rfl (V9 hs)) rfl (MJ (b:=false) ⟨λz=>absurd z q,λz=>nomatch z⟩) rfl)
     (aA (h_ rfl rfl (aL rfl rfl rfl (V9 hs)) rfl (OG q ZD)) (aA (iX (aL rfl rfl (aj (aL rfl rfl rfl (V9 hs)) rfl) (Yp ZD))) rfl))) rfl)) rfl)) ?_⟩
    show _=aR.ok _ (O5 (j9 (if(i,g) ∈ F then F else F++[(i,g)]) rs) [] os');rw[aZ q];exact e
  | @node d P L ps rs j k h1 h2 h3 h4=>
   have hL:L.length < 100000:=eG (cS h4.len.1 (by exact cS (cS (uq k j) (oR _)) (uq _ _))) hF;have hP:P.length < 100000:=eG (cS h3.len.1 (by exact cS (cS (fN j k) (oR _)) (uq _ _))) hF;have t1:dG (af 3) (a0::some (.h 2)::some (.h 3)::some (.h 4)::x4::tl) (O5 F (d::L).reverse os)= .ok true (O5 F (L.reverse++[d]) os):=by
    rw[List.reverse_cons];exact eO rfl (Oo (by rw[dJ,uz];exact d9 (Nat.succ_lt_succ hL) (by decide)) (by cases L.reverse<;>rfl))
   have pp:Br (.h 4) (O5 F (L.reverse++[d]) os)= .ok (.d d) (O5 F L.reverse os):=R3 (by rw[uz];exact d9 hL (by decide));obtain⟨y4,os',e⟩:=mU (j+k) (m:=m) (F:=F) (x4:=some (.d d)) (h3.app h4) (vY hm) (vU hF) (Ef hs);rw[List.reverse_append]at e;exact⟨y4,os',yg t1 (aA (asg (aL rfl rfl rfl pp)) (aA (ez (eO (gV rfl (h1 _)) rfl) (aA (iX (aL rfl rfl (aj (au (aj (au (aj rfl rfl) (cC (h2 n) rfl rfl rfl hs)) rfl) rfl) rfl) (X8 (by rw[uz];exact d9 (Nat.add_lt_add hL hP) (by decide))))) rfl)) rfl)) e⟩
theorem f4(h:rH [d] rs k)(hk:k < 400):fn 4 (run (n+4)) [.d d] O2= .ok (.d (.list ((j9 [] rs).map pd))) O2:=by
 obtain⟨y4,os',e⟩:=mU (n:=n) (a0:=some (.d d)) (tl:=List.replicate 12 none) (x4:=none) (F:=[]) (os:=[]) k h hk (by rw[nj];rw[jQ];exact d9 hk (by decide)) rfl;exact dH rfl (fh (aA (asg (yQ rfl rfl rfl)) (aA (asg rfl) (aA (asg (yQ (aj rfl rfl) rfl rfl)) (aA e (bG (bZ rfl)))))) rfl rfl)
end
section
variable{α β:Type}{o o1 o2:az}{loc iW:bL}{vs:List V}{own:List Nat}{RV:aR V}{g:DI}{bd:V->bL->az->aR bL}{t:DT}{st:List D->bL->az->aR (List D×bL)}{out:List D->az->aR V}{pn:Option Nat}{e:DE}{acc:List D}
theorem i6(h:g loc o= .ok (vs,pn) o1)(h2:jO pn bd t st (Bv pn out) vs acc (Ru own loc) o1=RV):a_ own g bd t st acc out loc o=RV:=gj h h2
theorem gT{nx:α->β}{L:β->bL}(hp:jI pn o=true)(hb:∀x y,bd (mk x) (L y) o= .ok (L (nx x)) o):
  ∀{l:List α}{acc:List D}{y:β},(∀x ∈ l,t (L (nx x)) o= .ok (p x) o/\(p x=true->e (L (nx x)) o= .ok (.d (f x)) o))->acc.length+l.length < 1000000->jO pn bd t (gu e) (Bv pn out) (l.map mk) acc (L y) o=bx (qI pn o) (out (acc++(l.filter p).map f))
 | [],acc,y,_,_=>by
  show jO pn bd t (gu e) (Bv pn out) [] acc (L y) o=bx (qI pn o) (out (acc++[]));rw[fC];show bz (jI pn o) _=_;rw[hp];rfl
 |x::l,acc,y,hs,hl=>by
  obtain⟨h1,h2⟩:=hs x (.head _);show bz (jI pn o) ((quiet (bd (mk x) (L y) o)).bind _)=_;rw[hp,hb];show(quiet (t (L (nx x)) o)).bind _=_;rw[h1];cases hx:p x with
  |false=>
   rw[List.filter_cons_of_neg (by rw[hx];exact As)];exact gT hp hb (λz hz=>hs z (.tail _ hz)) (vU hl)
  |true=>
   rw[List.filter_cons_of_pos hx];show(quiet (gu e acc (L (nx x)) o)).bind _=_;rw[show gu e acc (L (nx x)) o= .ok (acc++[f x],L (nx x)) o from by
    unfold gu;rw[h2 hx];show bz (c6 acc.length) _=_;rw[bR (eG (fN _ _) hl)];rfl]
   refine(gT (acc:=acc++[f x]) hp hb (λz hz=>hs z (.tail _ hz)) (by rw[dJ];exact(Nat.succ_add acc.length l.length).symm▸hl)).trans ?_;rw[jA];rfl
theorem jB(h:f loc o= .ok (.d d) o1)(h2:d.sX=some l):bH f loc o= .ok (l,none) o1:=gj h (by show bx d.sX _=_;rw[h2];rfl)
end
noncomputable def jm(T:List (aG×D))(p:Int×Int):Bool:=match aJ T (.int p.1)with
 |some (.tup [.int g,_])=>decide (g=p.2)
 |_=>false
structure WT(T:List (aG×D)):Prop where
 nd:(T.map (λZ=>Z.1)).Nodup
 sz:T.length < 60
 en:∀e ∈ T,∃(i g:Int)(d:D),e=(.int i,fK g d)
theorem iM{x:aG}(h:aJ T x=some d):(x,d) ∈ T:=by
 obtain⟨p,h1,h2⟩:=mS h;have:=iD (List.find?_some (p:=λp:aG×D=>decide (p.1=x)) h1);rw[<-this, <-h2];exact List.mem_of_find?_eq_some h1
theorem WT.at(W:WT T){i:Int}(h:aJ T (.int i)=some d):∃g e,d=fK g e:=by
 obtain⟨i',g,e,q⟩:=W.en _ (iM h);exact⟨g,e,(Prod.mk.inj q).2⟩
theorem WT.c6(W:WT T):c6 T.length=true:=bR (d9 W.sz (by decide))
theorem v9(h:aJ T (.int p.1)=some (fK g d)):jm T p=decide (g=p.2):=by unfold jm;rw[h]
theorem yl(h:aJ T (.int p.1)=none):jm T p=false:=by unfold jm;rw[h]
theorem WT.jm(W:WT T)(h:jm T p=true):∃d,aJ T (.int p.1)=some (fK p.2 d):=by
 cases q:aJ T (.int p.1)with
 |none=>rw[yl q]at h;cases h
 |some d=>
  obtain⟨g,e,rfl⟩:=W.at q;rw[v9 q]at h;exact⟨e,by rw[iD h]⟩
section
variable{n m:Nat}{T R:List (aG×D)}{F:List (Int×Int)}{p:Int×Int}{o os:az}{d:D}
theorem f5(W:WT T):fn 5 (run n) [sh, .d (pd p)] (O4 T R)= .ok (.d (.bool (jm T p))) (O4 T R):=by
 cases q:aJ T (.int p.1)with
 |none=>rw[yl q];exact f5F q
 |some d=>
  obtain⟨g,e,rfl⟩:=W.at q;rw[v9 q];exact f5T q
theorem cL{id:Nat}(h:fn id (run n) args (O4 T R)= .ok (.d d) (O4 T' R))(uH:Nat.blt id 73=true)(ha:idxOf args=[0,1,2,3])(hr:args.map (V.Ag (([0,1,2,3]:List Nat).idxOf ·))=args)(hf:os.all aH.aY=true):
  run (n+1) id args (.tab 0:: .tab 1:: .dict .ki T:: .dict .ks R::os)= .ok (.d d) (.tab 0:: .tab 1:: .dict .ki T':: .dict .ks R::os):=
 bu (dR:=args) (o₀:=O4 T R) h uH (by rw[ha];rfl) (by rw[ha];exact hr) hf (by
  rw[ha];show aR.ok (V.d d) (.tab 0:: .tab 1:: .dict .ki T':: .dict .ks R::(os++[]))=_;rw[fC])
theorem c5(W:WT T)(hf:os.all aH.aY=true):run (n+1) 5 [sh, .d (pd p)] (.tab 0:: .tab 1:: .dict .ki T:: .dict .ks R::os)= .ok (.d (.bool (jm T p))) (.tab 0:: .tab 1:: .dict .ki T:: .dict .ks R::os):=cL (f5 W) rfl rfl rfl hf
noncomputable abbrev O6(T R:List (aG×D))(F:List (Int×Int)):az:= .tab 0:: .tab 1:: .dict .ki T:: .dict .ks R:: .list (F.map pd):: .bO (F.map pt)::[]
noncomputable def uO(T:List (aG×D))(F:List (Int×Int)):List (Int×Int)->List (Int×Int)
 | []=>F
 |p::r=>uO T (if p ∈ F then F else if jm T p=true then F++[p]else F) r
theorem kO:∀{r F:List (Int×Int)},q ∈ uO T F r↔q ∈ F\/(q ∈ r/\jm T q=true)
 | [],F=>⟨.inl,λh=>h.elim id λh=>nomatch h.1⟩
 |p::r,F=>by
  refine(kO (r:=r)).trans ?_;rw[cN]
  by_cases h:p ∈ F
  ·rw[bw h];exact⟨λx=>x.imp id λy=>⟨.inr y.1,y.2⟩,λx=>x.elim .inl λy=>y.1.elim (λe=> .inl (e▸h)) λz=> .inr ⟨z,y.2⟩⟩
  ·rw[aZ h]
   by_cases h2:jm T p=true
   ·rw[bw h2,gU,dQ,or_assoc];exact⟨λx=>x.imp id λy=>y.elim (λe=>⟨.inl e,e▸h2⟩) λz=>⟨.inr z.1,z.2⟩,λx=>x.imp id λy=>y.1.elim .inl λz=> .inr ⟨z,y.2⟩⟩
   ·rw[aZ h2];exact⟨λx=>x.imp id λy=>⟨.inr y.1,y.2⟩,λx=>x.imp id λy=>y.1.elim (λe=>absurd (e▸y.2) h2) λz=>⟨z,y.2⟩⟩
theorem Dd:∀{r F:List (Int×Int)},F.Nodup->(uO T F r).Nodup
 | [],_,h=>h
 |p::r,F,h=>by
  refine Dd (r:=r) ?_
  by_cases q:p ∈ F
  ·rw[bw q];exact h
  ·rw[aZ q]
   by_cases h2:jm T p=true
   ·rw[bw h2];exact nk.mpr ⟨h,fU.mpr ⟨(λh=>nomatch h),nh⟩,λa ha b hb e=>q (by rw[<-dQ.mp hb, <-e];exact ha)⟩
   ·rw[aZ h2];exact h
theorem Aa(W:WT T)(nd:F.Nodup)(h:∀p ∈ F,jm T p=true):F.length<=T.length:=by
 have n2:(F.map λp=>aG.int p.1).Nodup:=lR.mpr (List.Pairwise.imp_of_mem (λha hb ne e=>ne (by
  obtain⟨d,h1⟩:=W.jm (h _ ha);obtain⟨d',h2⟩:=W.jm (h _ hb);rw[aG.int.inj e]at h1;exact Prod.ext (aG.int.inj e) (D.int.inj (nY (D.tup.inj (iQ (h1.symm.trans h2)))).1))) nd)
 have:=n2.length_le_of_subset (l₂:=T.map (λZ=>Z.1)) λx hx=>by
  obtain⟨p,hp,rfl⟩:=mM hx;obtain⟨d,h1⟩:=W.jm (h _ hp);exact cX.mpr ⟨_,iM h1,rfl⟩
 rwa [cO,cO]at this
theorem Gs(h:p ∈ F↔b=true):dX (.d (pd p)) (.h 5) (O6 T R F)= .ok (.d (.bool (!b))) (O6 T R F):=by
 show l9 (!(aJ (F.map pt) (p.1,p.2)).isSome) _=_;rw[show(p.1,p.2)=p from rfl,m6]
 by_cases q:p ∈ F
 ·rw[bw q,h.mp q];rfl
 ·rw[aZ q,Bool.eq_false_iff.mpr λe=>q (h.mpr e)];rfl
theorem WH(q:p ∉ F)(hF:F.length < 1000000):lH (.h 5) (.d (pd p)) (.bool true) (O6 T R F)= .ok () (.tab 0:: .tab 1:: .dict .ki T:: .dict .ks R:: .list (F.map pd):: .bO ((F++[p]).map pt)::[]):=by
 show bz (c6 (F.map pt).length) (.ok () (.tab 0:: .tab 1:: .dict .ki T:: .dict .ks R:: .list (F.map pd):: .bO (b_ (F.map pt) (p.1,p.2) (.bool true))::[]))=_;rw[show(p.1,p.2)=p from rfl,cO,bR hF];unfold b_;rw[m6,aZ q,fZ];rfl
theorem Yo(hF:F.length < 1000000):fG (.h 4) (.d (pd p)) (.tab 0:: .tab 1:: .dict .ki T:: .dict .ks R:: .list (F.map pd):: .bO S::[])= .ok (.d .none) (.tab 0:: .tab 1:: .dict .ki T:: .dict .ks R:: .list ((F++[p]).map pd):: .bO S::[]):=by
 show bz (c6 (F.map pd).length) (aR.ok (V.d .none) (.tab 0:: .tab 1:: .dict .ki T:: .dict .ks R:: .list (F.map pd++[pd p]):: .bO S::[]))=_;rw[cO,bR hF,fZ];rfl
theorem ri(W:WT T):∀{rs F:List (Int×Int)}{x2:Option V},F.length+rs.length < 100000->∃y2,jb none (aU 2) (S_ (run (n+1))) (rs.map λp=>V.d (pd p)) (some sh::a1::x2::some (.h 4)::some (.h 5)::a5::tl) (O6 T R F)= .ok (.next (some sh::a1::y2::some (.h 4)::some (.h 5)::a5::tl)) (O6 T R (uO T F rs))
 | [],F,x2,_=>⟨x2,rfl⟩
 |p::r,F,x2,hl=>by
  have hF:F.length < 1000000:=eG (fN _ _) (d9 hl (by decide))
  by_cases q:p ∈ F
  ·obtain⟨y2,e⟩:=ri W (rs:=r) (F:=F) (x2:=some (.d (pd p))) (vU hl);refine⟨y2,fH rfl (aA (ez (q8 (aQ rfl rfl (Gs (b:=true) ⟨λZ=>rfl,λZ=>q⟩) rfl)) rfl) rfl) ?_⟩;show _=aR.ok _ (O6 T R (uO T (if p ∈ F then F else _) r));rw[bw q];exact e
  ·have t1:aE dX (af 2) (af 4) (some sh::a1::some (.d (pd p))::some (.h 4)::some (.h 5)::a5::tl) (O6 T R F)= .ok true (O6 T R F):=aQ rfl rfl (Gs (b:=false) ⟨λz=>absurd z q,λz=>nomatch z⟩) rfl;cases h2:jm T p with
   |false=>
    obtain⟨y2,e⟩:=ri W (rs:=r) (F:=F) (x2:=some (.d (pd p))) (vU hl);refine⟨y2,fH rfl (aA (ez (oM t1 (q8 (eO (au (aj rfl (aj rfl rfl)) ((c5 W rfl).trans (by rw[h2]))) rfl))) rfl) rfl) ?_⟩;show _=aR.ok _ (O6 T R (uO T (if p ∈ F then F else if jm T p=true then _ else F) r));rw[aZ q,h2];exact e
   |true=>
    obtain⟨y2,e⟩:=ri W (rs:=r) (F:=F++[p]) (x2:=some (.d (pd p))) (by rw[dJ];exact(Nat.succ_add F.length r.length).symm▸hl);refine⟨y2,fH rfl (aA (ly (oM t1 (oM (eO (au (aj rfl (aj rfl rfl)) ((c5 W rfl).trans (by rw[h2]))) rfl) rfl)) (aA (h_ rfl rfl rfl rfl (WH q hF)) (aA (iX (aL rfl rfl (aj rfl rfl) (Yo hF))) rfl))) rfl) ?_⟩;show _=aR.ok _ (O6 T R (uO T (if p ∈ F then F else if jm T p=true then _ else F) r));rw[aZ q,h2];exact e
end
noncomputable def RT(T:List (aG×D))(d_:Int->List (Int×Int)):Prop:=∀i g d,aJ T (.int i)=some (fK g d)->∃k,k < 400/\rH [d] (d_ i) k
structure Wk(T:List (aG×D))(d_:Int->List (Int×Int))(st F:List (Int×Int)):Prop where
 nd:F.Nodup
 th:∀p ∈ F,jm T p=true
 bg:∀p ∈ st,jm T p=true->p ∈ F
 cl:∀p ∈ F,∀q ∈ d_ p.1,jm T q=true->q ∈ F
 mn:∀S:Int×Int->Prop,(∀p ∈ st,jm T p=true->S p)->(∀p,S p->∀q ∈ d_ p.1,jm T q=true->S q)->∀p ∈ F,S p
structure Yw(T:List (aG×D))(d_:Int->List (Int×Int))(st F:List (Int×Int))(a:Nat):Prop where
 nd:F.Nodup
 th:∀p ∈ F,jm T p=true
 bg:∀p ∈ st,jm T p=true->p ∈ F
 cl:∀p ∈ F.take a,∀q ∈ d_ p.1,jm T q=true->q ∈ F
 mn:∀S:Int×Int->Prop,(∀p ∈ st,jm T p=true->S p)->(∀p,S p->∀q ∈ d_ p.1,jm T q=true->S q)->∀p ∈ F,S p
 le:a<=F.length
theorem pS:∀(r F:List (Int×Int)),∃s,uO T F r=F++s
 | [],F=>⟨[],(fC F).symm⟩
 |p::r,F=>by
  show∃s,uO T (if p ∈ F then F else if jm T p=true then F++[p]else F) r=_;split
  ·exact pS r F
  ·split
   ·obtain⟨s,e⟩:=pS (T:=T) r (F++[p]);exact⟨[p]++s,by rw[e,jA]⟩
   ·exact pS r F
theorem atN{a:Nat}(h:a < l.length):Qu l (a:Int)=l[a]? :=by
 unfold Qu idx;rw[bw (cM ⟨n6 a,qX.mpr h⟩)];rfl
section
variable{n m k:Nat}{T R l:List (aG×D)}{F st:List (Int×Int)}{p:Int×Int}{o os:az}{d:D}{d_:Int->List (Int×Int)}{i g:Int}{x:V}{L:List D}
theorem TF(h:cH o x=none)(h':tW o x=none)(hx:bU o x=some L)(hl:L.length < 1000000){a:Nat}(ha:L[a]? =some d):aC x (.d (.int a)) o= .ok (.d d) o:=by
 unfold aC;rw[h,h'];show alt (bU o x) _ _=_;rw[hx];show bz (c6 L.length) (bx (Qu L (a:Int)) _)=_;rw[bR hl,atN (nc.mp ha).1,ha];rfl
theorem uT(W:WT T)(Z:RT T d_):∀(m:Nat){a:Nat}{F:List (Int×Int)}{x2:Option V},Yw T d_ st F a->T.length < a+m->
  ∃F' y2 y5,eB (aE uJ (af 5) (aq (bB dj) (aa (af 3) ak))) (SY (run (n+5))) m (some sh::a1::x2::some (.h 4)::some (.h 5)::some (.d (.int a))::tl) (O6 T R F)= .ok (.next (some sh::a1::y2::some (.h 4)::some (.h 5)::y5::tl)) (O6 T R F')/\Wk T d_ st F'
 | 0,a,F,x2,I,h=>absurd (cS I.le (Aa W I.nd I.th)) (Nat.not_le.mpr h)
 |m+1,a,F,x2,I,h=>by
  have hF:F.length < 60:=eG (Aa W I.nd I.th) W.sz;have lf:dj (.h 4) (O6 T R F)= .ok (.d (.int (F.length:Int))) (O6 T R F):=by
   show bz (c6 (F.map pd).length) (pU ((F.map pd).length:Int) _)=_;rw[cO,bR (d9 hF (by decide))];rfl
  by_cases ha:a < F.length
  ·have e1:F[a]? =some F[a]:=je ha;have hp:F[a] ∈ F:=List.getElem_mem ha;generalize F[a]=p at e1 hp;obtain⟨d,hd⟩:=W.jm (I.th p hp);obtain⟨k,hk,rr⟩:=Z _ _ _ hd;have hr:(j9 [] (d_ p.1)).length < 1000:=by
    have:=(xK (r:=d_ p.1) nh).length_le_of_subset (l₂:=d_ p.1) λx hx=>(jx.mp hx).elim (λh=>nomatch h) id;exact eG (cS this (rr.len.2)) (d9 hk (by decide))
   obtain⟨y2,e2⟩:=ri (n:=n+4) (R:=R) W (a1:=a1) (a5:=some (.d (.int a))) (tl:=tl) (rs:=j9 [] (d_ p.1)) (F:=F) (x2:=x2) (d9 (Nat.add_lt_add hF hr) (by decide));have hi:(((j9 [] (d_ p.1)).map pd).map V.d)=(j9 [] (d_ p.1)).map λp=>V.d (pd p):=dB;obtain⟨s,es⟩:=pS (T:=T) (j9 [] (d_ p.1)) F;have I':Yw T d_ st (uO T F (j9 [] (d_ p.1))) (a+1):={
    nd:=Dd I.nd
    th:=λq hq=>(kO.mp hq).elim (I.th q) (λZ=>Z.2)
    bg:=λq hq t=>kO.mpr (.inl (I.bg q hq t))
    cl:=λq hq z hz tz=>by
     rw[es,List.take_append_of_le_length ha,List.take_succ,e1,gU]at hq;rcases hq with hq |hq
     ·exact kO.mpr (.inl (I.cl q hq z hz tz))
     ·clear es hi e2 hr rr hd d hp e1;cases dQ.mp hq;exact kO.mpr (.inr ⟨jx.mpr (.inr hz),tz⟩)
    mn:=λS h1 h2 q hq=>(kO.mp hq).elim (I.mn S h1 h2 q) λy=>h2 p (I.mn S h1 h2 p hp) q ((jx.mp y.1).elim (λh=>nomatch h) id) y.2
    le:=by rw[es,dJ];exact cS ha (fN _ _)}
   obtain⟨F',z2,z5,e3,C⟩:=uT W Z m (x2:=y2) I' (by rw[Nat.succ_add];exact h);refine⟨F',z2,z5,yg (aQ rfl (au (aj rfl rfl) lf) (show l9 (decide ((a:Int) < (F.length:Int))) _= .ok (.d (.bool true)) _ from by rw[cM (qX.mpr ha)];rfl) rfl) (aA (mw (jB (au (aj (aN (aN (di rfl rfl) (aN (aN rfl rfl (TF rfl rfl rfl (by rw[cO];exact d9 hF (by decide)) (by rw[gB,e1];rfl))) rfl rfl) (G8 (o:=O6 T R F) rfl hd)) rfl rfl) rfl) (cC (f4 rr hk) rfl rfl rfl rfl)) (congrArg some hi)) e2) (aA (asg (aN rfl rfl rfl)) rfl)) e3,C⟩
  ·have ea:a=F.length:=Nat.le_antisymm I.le (Nat.le_of_not_lt ha);refine⟨F,x2,_,DA (aQ rfl (au (aj rfl rfl) lf) (show l9 (decide ((a:Int) < (F.length:Int))) _= .ok (.d (.bool false)) _ from by rw[fM (λq=>ha (qX.mp q))];rfl) rfl),⟨I.nd,I.th,I.bg,λp hp=>I.cl p (by rw[ea,List.take_length];exact hp),I.mn⟩⟩
theorem u7:∀{F G:List (Int×Int)},(G++F).Nodup->fP (.bO (G.map pt)) (F.map λp=>D.tup [pd p, .bool true])=some (.bO ((G++F).map pt))
 | [],G,_=>by rw[fC];rfl
 |p::F,G,h=>by
  have hp:p ∉ G:=λq=>(nk.mp h).2.2 p q p (.head _) rfl;show(some (aH.bO (b_ (G.map pt) (p.1,p.2) (.bool true)))).bind (λx=>fP x (F.map λp=>D.tup [pd p, .bool true]))=_;rw[show(p.1,p.2)=p from rfl];unfold b_;rw[m6,aZ hp];show fP (.bO (G.map pt++[p].map pt)) (F.map λp=>D.tup [pd p, .bool true])=_;rw[<-fZ];refine(u7 (F:=F) (G:=G++[p]) (by rw[jA];exact h)).trans ?_;rw[jA];rfl
theorem fD(h:fP x₀ L=some y)(he:mE x₀=true)(hl:L.length < 1000000):gw b x₀ (.d (.list L)) o=wN b y o:=by
 show bz (mE x₀&&c6 L.length) (bx (fP x₀ L) _)=_;rw[he,bR hl,h];rfl
theorem fQ{α β:Type}{mk:α->V}{nx:α->β}{Lo:β->bL}{f:α->D}{l:List α}{y:β}(hp:jI pn o=true)(hb:∀x y,bd (mk x) (Lo y) o= .ok (Lo (nx x)) o)
  (hs:∀x ∈ l,e (Lo (nx x)) o= .ok (.d (f x)) o)(hl:l.length < 1000000):jO pn bd bN (gu e) (Bv pn out) (l.map mk) [] (Lo y) o=bx (qI pn o) (out (l.map f)):=by
 have:=gT (out:=out) (acc:=[]) (p:=λZ=>true) hp hb (y:=y) (t:=bN) (λx hx=>⟨rfl,λZ=>hs x hx⟩) (by rw[nj,jQ];exact hl)
 rwa [List.filter_eq_self.mpr λZ Z=>rfl]at this
theorem f7(W:WT T)(Z:RT T d_)(h:rH [d] st k)(hk:k < 400):∃F,fn 7 (run (n+5)) [sh, .d d] (O4 T R)= .ok (.d (.list (F.map pd))) (O4 T R)/\Wk T d_ st F:=by
 have nA:(j9 [] st).Nodup:=xK nh;have hA:(j9 [] st).length < 1000:=by
  have:=nA.length_le_of_subset (l₂:=st) λx hx=>(jx.mp hx).elim (λh=>nomatch h) id;exact eG (cS this (h.len.2)) (d9 hk (by decide))
 have g1:=gT (out:=zm) (acc:=[]) (pn:=none) (o:=O4 T R) (mk:=λp=>V.d (pd p)) (nx:=λp=>some (V.d (pd p))) (L:=λy=>some sh::some (.d d)::none::none::none::none::none::y::List.replicate 10 none) (bd:=aU 7) (t:=dG (aq (run (n+5) 5) (aa (af 0) (aa (af 7) ak)))) (e:=af 7) (p:=jm T) (f:=pd) (l:=j9 [] st) (y:=none) rfl (λx y=>rfl)
  (λx hx=>⟨eO (au (aj rfl (aj rfl rfl)) (c5 W rfl)) rfl,λU=>rfl⟩) (by rw[nj];rw[jQ];exact d9 hA (by decide))
 generalize hB:(j9 [] st).filter (jm T)=B at g1;have nB:B.Nodup:=hB▸nA.sublist rL;have tB:∀p ∈ B,jm T p=true:=λp hp=>(iE.mp (hB.symm▸hp)).2;have I:Yw T d_ st B 0:=⟨nB,tB,(λp hp t=>hB▸iE.mpr ⟨jx.mpr (.inr hp),t⟩),(λp hp=>nomatch hp),(λS h1 U p hp=>by
  obtain⟨a,b⟩:=iE.mp (hB.symm▸hp);exact h1 p ((jx.mp a).elim (λh=>nomatch h) id) b),pY _⟩
 have ZF:B.length < 60:=eG (Aa W nB tB) W.sz;have g2:=fQ (out:=bh) (pn:=some 4) (o:= .tab 0:: .tab 1:: .dict .ki T:: .dict .ks R:: .pin (.list (B.map pd))::[]) (mk:=λp=>V.d (pd p)) (nx:=λp=>some (V.d (pd p))) (Lo:=λy=>some sh::some (.d d)::none::some (.h 4)::none::none::none::y::List.replicate 10 none) (bd:=aU 7) (e:=cB (aa (af 7) (aa (ai (.bool true)) ak))) (f:=λp=> .tup [pd p, .bool true]) (l:=B) (y:=none) rfl (λx y=>rfl) (λx hx=>eH rfl rfl rfl) (d9 ZF (by decide));obtain⟨F',y2,y5,e3,C⟩:=uT (n:=n) (R:=R) W Z (a1:=some (.d d)) (tl:=List.replicate 12 none) 100 (x2:=none) I (d9 W.sz (by decide));exact⟨F',dH rfl (fh (aA (asg (i6 (jB (au (aj rfl rfl) (cC (f4 h hk) rfl rfl rfl rfl)) (congrArg some (dB (f:=pd) (g:=V.d) (l:=j9 [] st)))) g1)) (aA (asg (au (aj (i6 ((show bH (af 3) _ _=aR.ok ((B.map pd).map V.d,some 4) _ from rfl).trans (by rw[dB];rfl)) g2) rfl) (fD (u7 (G:=[]) nB) rfl (by rw[cO];exact d9 ZF (by decide))))) (aA (asg rfl) (aA e3 (bG (bZ rfl)))))) rfl rfl),C⟩
end
theorem fE(h:A ((args++fW.map V.d).map some++List.replicate (n - k) none) o= .ok (.ret (.d x)) o)(hk:decide (args.length+fW.length=k)=true):bI k n fW A false args o= .ok (.d x) o:=
 fh h hk (by show aR.ok (V.d x) (o.take o.length)=_;rw[List.take_length])
theorem yD{l:List D}(p:l.Perm (L.map .int)):∃U:List Int,l=U.map .int/\U.Perm L:=by
 refine⟨l.map λd=>d.int?.getD 0, ?_, ?_⟩
 ·rw[dB];refine((List.map_congr_left λd hd=> ?_).trans (List.map_id l)).symm;obtain⟨i,_,rfl⟩:=mM (p.mem_iff.mp hd)
  rfl
 ·have:=p.map λd=>(D.int? d).getD 0;rw[dB]at this;exact this.trans (List.Perm.of_eq ((List.map_congr_left λi Z=>rfl).trans (List.map_id L)))
noncomputable abbrev R0:List (aG×D):=[(.str "Root",rf 70 2)]
section
variable{n k:Nat}{T R:List (aG×D)}{o:az}{d:D}{d_:Int->List (Int×Int)}{i:Int}{L:List D}{kd:Str}
theorem NRx(h:∀o:az,bx (uW o (.d d)) (λt=>l9 (PG (.cls .reference) t) o)= .ok (.d (.bool false)) o):NR d:=h
theorem c0(h:∀n,fn 0 (run n) [.d d] O2= .ok (.d (.str kd)) O2):run (n+1) 0 [.d d] O2= .ok (.d (.str kd)) O2:=cC (os:=[]) (h n) rfl rfl rfl rfl
noncomputable def Vh(d:D)(L:List D):Prop:=∀n,fn 3 (run (n+1)) [.d d] O2= .ok (.d (.list L)) O2
theorem Vh.pt(h:Vh d L):Pt d L:=λn=>h (n+2)
theorem Y_(h:∀n,fn 0 (run n) [.d d] O2= .ok (.d (.str "dict")) O2)(h2:a_ [2,3] (bH (aq (bB c_) (aa (af 0) ak))) (aU 3) bN (gu (aB aC (af 0) (af 3))) [] bh (some (.d d)::some (.d (.str "dict"))::List.replicate 12 none) O2= .ok (.d (.list L)) O2):Vh d L:=λn=>
 dH rfl (fE (aA (asg (au (aj rfl rfl) (c0 h))) (aA (ez (aQ rfl rfl rfl rfl) rfl) (bG (ly (aQ rfl rfl rfl rfl) (bG (bZ h2)))))) rfl)
theorem ptL(hl:L.length < 1000000):Pt (.list L) L:=λn=>
 dH rfl (fE (aA (asg (au (aj rfl rfl) (c0 (kd:="array") λn=>by kernel_rfl))) (bG (ly (aQ rfl rfl rfl rfl) (bG (bZ (au (aj rfl rfl) (by show bz (c6 L.length) _=_;rw[bR hl];rfl))))))) rfl)
theorem ptS(h1:Vh h P):Pt (.inst .stream [h,b]) P:=λn=>
 dH rfl (fE (aA (asg (au (aj rfl rfl) (c0 (kd:="stream") λn=>by kernel_rfl))) (aA (ez (aQ rfl rfl rfl rfl) rfl) (aA (ez (aQ rfl rfl rfl rfl) rfl) (bG (ly (aQ rfl rfl rfl rfl) (bG (bZ (au (aj (di rfl rfl) rfl) (cC (os:=[]) (h1 (n+1)) rfl rfl rfl rfl))))))))) rfl)
theorem ptN(h:∀n,fn 0 (run n) [.d d] O2= .ok (.d (.str kd)) O2)(h1:kR kd "array"=false)(h2:kR kd "dict"=false)(h3:kR kd "stream"=false):Pt d []:=λn=>by
 have ne:∀{x:Str}{loc:bL}{o:az},kR kd x=false->loc[1]? =some (some (.d (.str kd)))->aE gi (af 1) (ai (.str x)) loc o= .ok false o:=λ{x loc o} hx hl=>aQ (v:= .d (.bool false)) (show af 1 loc o= .ok (.d (.str kd)) o from by unfold af;rw[hl]) rfl (by
  show bx (some (decide (kd=x))) _=_;rw[fM λe=>by rw[e,ku]at hx;cases hx];rfl) rfl
 exact dH rfl (fE (aA (asg (au (aj rfl rfl) (c0 h))) (aA (ez (ne h1 rfl) rfl) (aA (ez (ne h2 rfl) rfl) (aA (ez (ne h3 rfl) rfl) (bG (bZ rfl)))))) rfl)
theorem AP:∃k,k < 400/\rH [.dict .ks R0] [(70,2)] k:=⟨2,by decide, .node (P:=[rf 70 2]) (λZ=>rfl) (Y_ (λn=>by kernel_rfl) (by kernel_rfl)).pt (.ref .nil) .nil⟩
theorem f6:fn 6 (run n) [sh] (O4 T R0)= .ok (.d (.dict .ks R0)) (O4 T R0):=by kernel_rfl
theorem f8(W:WT T)(Z:RT T d_){st:List (Int×Int)}(h:rH [d] st k)(hk:k < 400):∃(F:List (Int×Int))(U:List Int),fn 8 (run (n+6)) [sh, .d d] (O4 T R)= .ok (.d (.list (U.map .int))) (O4 T R)/\Wk T d_ st F/\U.Perm (F.map (λZ=>Z.1)):=by
 refine cps λPP kk=> ?_;obtain⟨F,e,C⟩:=f7 (n:=n) (R:=R) W Z h hk;have hF:F.length < 60:=eG (Aa W C.nd C.th) W.sz;obtain⟨U,e2,p⟩:=yD (L:=F.map (λZ=>Z.1)) ((cu (lt:=Aj mh.κ mh.key) (F.map λp:Int×Int=>D.int p.1)).trans (List.Perm.of_eq (by rw[dB];rfl)));refine kk ?_;clear kk;have g:=fQ (out:=bh) (pn:=none) (o:=O4 T R) (mk:=λp=>V.d (pd p)) (nx:=λp=>some (V.d (pd p))) (Lo:=λy=>some sh::some (.d d)::none::y::List.replicate 10 none) (bd:=aU 3) (e:=aB aC (af 3) (ai (.int 0))) (f:=λp=>D.int p.1) (l:=F) (y:=none) rfl (λx y=>rfl) (λx hx=>aN rfl rfl rfl) (d9 hF (by decide));refine⟨F,U,dH rfl (fE (bG (bZ (au (aj (i6 (jB (au (aj rfl (aj rfl rfl)) (cL (os:=[]) e rfl rfl rfl rfl)) (congrArg some (dB (f:=pd) (g:=V.d) (l:=F)))) g) rfl) ?_))) rfl),C,p⟩;show jf (F.map λp=>D.int p.1) _=_;unfold jf;rw[cO,show Nat.blt F.length 64=true from Nat.ble_eq_true_of_le (d9 hF (by decide))];show(if _ then Cr _ (.list (gH (Aj mh.κ mh.key) (F.map λp:Int×Int=>D.int p.1)))else _)=_;rw[bw (by rw[List.all_map];exact cZ.mpr λY Y=>rfl),e2]
theorem G3{x y:aG}:(aJ (b_ l x v) y).isSome=(decide (x=y)||(aJ l y).isSome):=by
 have km:∀l:List (aG×D),aJ (l.map (kH x v)) y=if x=y then(aJ l y).map λZ=>v else aJ l y:=λl=>by
  induction l with
  |nil=>split<;>rfl
  |cons p l ih=>
   have e:∀q:aG×D,(kH x v q).1=q.1:=λq=>by unfold kH;split<;>rfl
   show(match decide ((kH x v p).1=y)with |true=>some (kH x v p) |false=>(l.map (kH x v)).find? _).map _=if x=y then((match decide (p.1=y)with |true=>some p |false=>l.find? _).map _).map _ else(match decide (p.1=y)with |true=>some p |false=>l.find? _).map _
   rw[e]
   by_cases h:p.1=y
   ·rw[cM h]
    by_cases h2:x=y
    ·rw[bw h2];show some (kH x v p).2=some v;unfold kH;rw[if_pos (h.trans h2.symm)]
    ·rw[aZ h2];show some (kH x v p).2=some p.2;unfold kH;rw[if_neg λq=>h2 (q.symm.trans h)]
   ·rw[fM h];exact ih
 have ka:∀l:List (aG×D),(aJ (l++[(x,v)]) y).isSome=((aJ l y).isSome||decide (x=y)):=λl=>by
  unfold aJ;rw[List.find?_append];cases l.find? (λp=>decide (p.1=y))with
  |some p=>rfl
  |none=>by_cases h:x=y<;>simp[h]
 unfold b_;split
 ·rename_i hs;rw[km]
  by_cases h:x=y
  ·rw[bw h, <-h,cM rfl,Option.isSome_map,hs];rfl
  ·rw[aZ h,fM h];rfl
 ·rw[ka,Bool.or_comm]
theorem u9:∀(U:List Int)(K:List (aG×D)),∃K',fP (.dict .ki K) (U.map λi=>D.tup [.int i, .bool true])=some (.dict .ki K')/\∀j,(aJ K' (.int j)).isSome=true↔j ∈ U\/(aJ K (.int j)).isSome=true
 | [],K=>⟨K,rfl,λj=>⟨.inr,λh=>h.elim (λh=>nomatch h) id⟩⟩
 |u::U,K=>by
  obtain⟨K',e,h⟩:=u9 U (b_ K (.int u) (.bool true));refine⟨K',e,λj=>(h j).trans ?_⟩;rw[G3,Bool.or_eq_true_iff,decide_eq_true_iff,cN];exact⟨λx=>x.elim (λy=> .inl (.inr y)) λy=>y.elim (λz=> .inl (.inl (aG.int.inj z).symm)) .inr,λx=>x.elim (λy=>y.elim (λz=> .inr (.inl (congrArg _ z.symm))) .inl) λy=> .inr (.inr y)⟩
theorem vh(W:WT T):∃U:List Int,Ky T=U.map .int/\U.Nodup/\∀i,i ∈ U↔∃d,aJ T (.int i)=some d:=by
 refine cps λPP kk=> ?_;obtain⟨K,hK⟩:∃K:List Int,T.map (λZ=>Z.1)=K.map .int:=⟨T.map λp=>match p.1 with | .int i=>i |_=>0,by
  rw[dB];refine List.map_congr_left λp hp=> ?_;obtain⟨i,g,d,rfl⟩:=W.en p hp
  rfl⟩
 have h1:(T.map λp=>cQ p.1)=K.map .int:=(dB (f:=λp:aG×D=>p.1) (g:=cQ) (l:=T)).symm.trans (by rw[hK,dB];rfl);obtain⟨U,e,p⟩:=yD (L:=K) ((cu (lt:=Aj mh.κ mh.key) (T.map λp=>cQ p.1)).trans (List.Perm.of_eq h1));refine kk ?_;clear kk;have nK:K.Nodup:=(lR.mp (hK▸W.nd)).imp λh e=>h (congrArg _ e);refine⟨U,e,p.nodup_iff.mpr nK,λi=>p.mem_iff.trans ⟨λhi=> ?_,λ⟨d,h⟩=> ?_⟩⟩
 ·obtain⟨q,hq,eq⟩:=mM (hK.symm▸cX.mpr ⟨i,hi,rfl⟩:aG.int i ∈ T.map (λZ=>Z.1));unfold aJ;cases hf:T.find? λp=>decide (p.1= .int i)with
  |some z=>exact⟨_,rfl⟩
  |none=>exact absurd (cM eq) (Ar.mp hf q hq)
 ·have this:aG.int i ∈ T.map (λZ=>Z.1):=cX.mpr ⟨_,iM h,rfl⟩;rw[hK]at this;obtain⟨j,hj,e⟩:=mM this;exact aG.int.inj e▸hj
theorem f9(W:WT T)(Z:RT T d_):∃(F:List (Int×Int))(Q:List Int),fn 9 (run (n+7)) [sh] (O4 T R0)= .ok (.d (.list (Q.map .int))) (O4 T R0)/\Wk T d_ [(70,2)] F/\Q.Nodup/\∀i,i ∈ Q↔(∃d,aJ T (.int i)=some d)/\∀p ∈ F,p.1≠i:=by
 refine cps λPP kk=> ?_;obtain⟨k,hk,rr⟩:=AP;obtain⟨F,U,e,C,p⟩:=f8 (n:=n) (R:=R0) W Z rr hk;have hF:F.length < 60:=eG (Aa W C.nd C.th) W.sz;have hU:U.length < 1000000:=by rw[p.length_eq,cO];exact d9 hF (by decide)
 obtain⟨K,eK,hK⟩:=u9 U [];obtain⟨N,eN,nN,hN⟩:=vh W;refine kk ?_;clear kk;have ei:T.all (λp=>(cQ p.1).int?.isSome)=true:=cZ.mpr λp hp=>by obtain⟨i,g,d,rfl⟩:=W.en p hp;rfl
 have lN:N.length < 1000000:=by
  have:=congrArg List.length eN;unfold Ky at this;rw[cO,(cu _).length_eq,cO]at this;rw[<-this];exact d9 W.sz (by decide)
 have g1:=fQ (out:=bh) (pn:=none) (o:=O4 T R0) (mk:=λi:Int=>V.d (.int i)) (nx:=λi=>some (V.d (.int i))) (Lo:=λy=>some sh::none::none::y::List.replicate 10 none) (bd:=aU 3) (e:=cB (aa (af 3) (aa (ai (.bool true)) ak))) (f:=λi=>D.tup [.int i, .bool true]) (l:=U) (y:=none) rfl (λx y=>rfl) (λx hx=>eH rfl rfl rfl) hU;have g2:=gT (out:=bh) (acc:=[]) (pn:=none) (o:=O4 T R0) (mk:=λi:Int=>V.d (.int i)) (nx:=λi=>some (V.d (.int i))) (L:=λy=>some sh::some (.d (.dict .ki K))::none::y::List.replicate 10 none) (bd:=aU 3) (t:=aE dX (af 3) (af 1)) (e:=af 3) (p:=λi=> !(aJ K (.int i)).isSome) (f:=D.int) (l:=N) (y:=none) rfl (λx y=>rfl) (λx hx=>⟨aQ rfl rfl rfl rfl,λY=>rfl⟩) (by rw[nj,jQ];exact lN);refine⟨F,_,dH rfl (fE (aA (asg (au (aj (i6 (jB (au (aj rfl (aj (au (aj rfl rfl) (bu f6 rfl rfl rfl rfl rfl)) rfl)) (cL (os:=[]) e rfl rfl rfl rfl)) (congrArg some (dB (f:=D.int) (g:=V.d) (l:=U)))) g1) rfl) (fD eK rfl (by rw[cO];exact hU)))) (bG (bZ (i6 (jB (aL rfl rfl rfl (cL (os:=[]) (ZL (Nat.ble_eq_true_of_le (d9 W.sz (by decide))) ei) rfl rfl rfl rfl)) (by rw[eN];exact congrArg some (dB (f:=D.int) (g:=V.d) (l:=N)))) g2)))) rfl),C,nN.sublist rL,λi=> ?_⟩;rw[iE,hN,Bool.not_eq_true', <-Bool.not_eq_true,hK];exact and_congr Iff.rfl ⟨λh p' K_ e'=>h (.inl (p.mem_iff.mpr (cX.mpr ⟨p',K_,e'⟩))),λh x=>x.elim (λy=>let⟨p',K_,e'⟩:=mM (p.mem_iff.mp y);h p' K_ e') λy=>nomatch y⟩
end
theorem fX(h:∀x ∈ l,jM m x x=some true):jM (m+1) (.tup l) (.tup l)=some true:=by
 have z:∀l:List D,(∀x ∈ l,jM m x x=some true)->iz (jM m) l l=some true:=λl h=>by
  induction l with
  |nil=>rfl
  |cons a l ih=>
   show(jM m a a).bind _=_;rw[h a (.head _)];show(iz (jM m) l l).map _=_;rw[ih λx hx=>h x (.tail _ hx)];rfl
 show(iz (jM m) l l).map (λr=>r&&decide (l.length=l.length))=_;rw[z l h,cM rfl];rfl
theorem HZ(h:∀m,jM m d d=Uw d d)(h2:Uw d d=some true):jM m d d=some true:=(h m).trans h2
theorem ji:jM m (.int i) (.int i)=some true:=HZ (λm=>by cases m<;>rfl) (congrArg some (cM rfl))
theorem iC:jM m (.str i) (.str i)=some true:=HZ (λm=>by cases m<;>rfl) (congrArg some (cM rfl))
theorem xy:jM m (.bytes i) (.bytes i)=some true:=HZ (λm=>by cases m<;>rfl) (congrArg some (cM rfl))
noncomputable def De(h:Nat)(d:D):Prop:=∃t,(∀n,fn 2 (run (n+h)) [.d d] O2= .ok (.d t) O2)/\∀m,2 * h<=m->jM m t t=some true
section
variable{n k h:Nat}{d:D}{l vl:List D}{kd:Str}{e:List (aG×D)}{K:List aG}
theorem yj(h0:∀n,fn 0 (run n) [.d d] O2= .ok (.d (.str kd)) O2)(h1:kR kd "array"=false)(h2:kR kd "dict"=false)(h3:kR kd "stream"=false)(h4:∀n,fn 1 (run n) [.d (.str kd), .d d] O2= .ok (.d (.tup t)) O2)(h5:∀x ∈ t,∀m,jM m x x=some true):De 1 d:=by
 have ne:∀{x:Str}{loc:bL}{o:az},kR kd x=false->loc[1]? =some (some (.d (.str kd)))->aE gi (af 1) (ai (.str x)) loc o= .ok false o:=λ{x loc o} hx hl=>aQ (v:= .d (.bool false)) (show af 1 loc o= .ok (.d (.str kd)) o from by unfold af;rw[hl]) rfl (by
  show bx (some (decide (kd=x))) _=_;rw[fM λe=>by rw[e,ku]at hx;cases hx];rfl) rfl
 refine⟨_,λn=>dH rfl (fE (aA (asg (au (aj rfl rfl) (cC (os:=[]) (h0 n) rfl rfl rfl rfl))) (aA (ez (ne h1 rfl) rfl) (aA (ez (ne h2 rfl) rfl) (aA (ez (ne h3 rfl) rfl) (bG (bZ (au (aj rfl (aj rfl rfl)) (cC (os:=[]) (h4 n) rfl rfl rfl rfl)))))))) rfl),λm hm=> ?_⟩;cases m with
 |zero=>cases hm
 |succ m=>exact fX λx hx=>h5 x hx m
theorem v7(x:De h d)(hh:h<=h'):De h' d:=let⟨t,a,b⟩:=x;⟨t,λn=>by
 have:=a (n+(h' - h))
 rwa [oS,Nat.sub_add_cancel hh]at this,λm hm=>b m (cS (vW 2 hh) hm)⟩
theorem c2(x:De h d):∃t,(∀n os,os.all aH.aY=true->run (n+h+1) 2 [.d d] (.tab 0:: .tab 1::os)= .ok (.d t) (.tab 0:: .tab 1::os))/\∀m,2 * h<=m->jM m t t=some true:=let⟨t,a,b⟩:=x;⟨t,λn os hf=>cC (a n) rfl rfl rfl hf,b⟩
theorem F3(hs:∀x ∈ l,De h x):∃f:D->D,∀x ∈ l,(∀n os,os.all aH.aY=true->run (n+h+1) 2 [.d x] (.tab 0:: .tab 1::os)= .ok (.d (f x)) (.tab 0:: .tab 1::os))/\∀m,2 * h<=m->jM m (f x) (f x)=some true:=
 let⟨f,hf⟩:=Classical.axiomOfChoice (r:=λx t=>x ∈ l->(∀n os,os.all aH.aY=true->run (n+h+1) 2 [.d x] (.tab 0:: .tab 1::os)= .ok (.d t) (.tab 0:: .tab 1::os))/\∀m,2 * h<=m->jM m t t=some true) λx=>by
  by_cases hx:x ∈ l
  ·obtain⟨t,a⟩:=c2 (hs x hx);exact⟨t,λZ=>a⟩
  ·exact⟨.none,λq=>absurd q hx⟩
 ⟨f,hf⟩
theorem UW(hl:a.length+b.length < 1000000):cF (.d (.tup a)) (.d (.tup b)) o= .ok (.d (.tup (a++b))) o:=by
 show bz (c6 (a.length+b.length)) _=_;rw[bR hl];rfl
theorem JV(hl:l.length < 1000000):oF (.d (.list l)) o= .ok (.d (.tup l)) o:=by
 show bz (c6 l.length) _=_;rw[bR hl];rfl
theorem Fc(hs:∀x ∈ l,De h x)(hl:l.length < 900000):De (h+1) (.list l):=by
 obtain⟨f,hf⟩:=F3 hs;have hl':l.length < 1000000:=d9 hl (by decide);refine⟨.tup ([.str "array"]++l.map f),λn=> ?_,λm hm=> ?_⟩
 ·have g:=fQ (out:=bh) (pn:=none) (o:=O2) (mk:=V.d) (nx:=λd=>some (V.d d)) (Lo:=λy=>some (.d (.list l))::some (.d (.str "array"))::none::y::List.replicate 10 none) (bd:=aU 3) (e:=aq (run (n+(h+1)) 2) (aa (af 3) ak)) (f:=f) (l:=l) (y:=none) rfl (λx y=>rfl) (λx hx=>au (aj rfl rfl) ((hf x hx).1 n [] rfl)) hl';exact dH rfl (fE (aA (asg (au (aj rfl rfl) (cC (id:=0) (n:=n+h) (os:=[]) (d:= .str "array") (by kernel_rfl) rfl rfl rfl rfl))) (bG (ly (aQ rfl rfl rfl rfl) (bG (bZ (aN (eH (aj rfl rfl) rfl rfl) (au (aj (i6 (jB rfl rfl) g) rfl) (JV (by rw[cO];exact hl'))) (UW (by rw[cO];simp only[List.length_cons,List.length_nil];exact Nat.lt_of_le_of_lt (Nat.le_of_eq (Nat.add_comm 1 l.length)) (Nat.lt_of_lt_of_le (Nat.succ_lt_succ hl) (by decide)))))))))) rfl)
 ·obtain⟨m,rfl⟩:∃k,m=k+1:=⟨m - 1,by exact SA ‹_› rfl⟩;refine fX λx hx=> ?_;rcases gU.mp hx with q |q
  ·rw[dQ.mp q];exact iC
  ·obtain⟨y,hy,rfl⟩:=mM q;exact(hf y hy).2 m (by exact YT hm)
structure DK(e:List (aG×D))(K:List aG)(vl:List D):Prop where
 so:∀o:az,c_ (.d (.dict .ks e)) o= .ok (.d (.list (K.map cQ))) o
 ks:K.map (keyOf .ks∘cQ)=K.map some
 vs:K.map (aJ e)=vl.map some
 sz:K.length < 64
 nn:∀v ∈ vl,v.isNone=false
theorem DK.at(z:DK e K vl)(hx:x ∈ K):keyOf .ks (cQ x)=some x/\∃v ∈ vl,aJ e x=some v:=by
 refine⟨List.map_inj_left.mp z.ks x hx, ?_⟩;have this:aJ e x ∈ K.map (aJ e):=cX.mpr ⟨x,hx,rfl⟩;rw[z.vs]at this;obtain⟨v,h1,h2⟩:=mM this;exact⟨v,h1,h2.symm⟩
theorem TG(h1:keyOf .ks (cQ x)=some x)(h2:aJ e x=some v):aC (.d (.dict .ks e)) (.d (cQ x)) o= .ok (.d v) o:=by
 show bx ((keyOf .ks (cQ x)).bind (aJ e)) _=_;rw[h1];show bx (aJ e x) _=_;rw[h2];rfl
theorem Cm(z:DK e K vl):Vh (.dict .ks e) vl:=by
 have g:=fQ (out:=bh) (pn:=none) (o:=O2) (mk:=λx=>V.d (cQ x)) (nx:=λd=>some (V.d (cQ d))) (Lo:=λy=>some (.d (.dict .ks e))::some (.d (.str "dict"))::none::y::List.replicate 10 none) (bd:=aU 3) (e:=aB aC (af 0) (af 3)) (f:=λx=>(aJ e x).getD .none) (l:=K) (y:=none) rfl (λx y=>rfl) (λx hx=>by
  obtain⟨a,v,_,b⟩:=z.at hx;exact aN rfl rfl (by rw[b];exact TG a b)) (d9 z.sz (by decide))
 have eV:(K.map λx=>(aJ e x).getD .none)=vl:=by
  have:=congrArg (List.map λx:Option D=>x.getD .none) z.vs;rw[dB,dB]at this;exact this.trans (List.map_id vl)
 rw[eV]at g;exact Y_ (λn=>by kernel_rfl) (i6 (jB (au (aj rfl rfl) (z.so _)) (congrArg some (dB (f:=cQ) (g:=V.d) (l:=K)))) g)
end
section
variable{n k h j:Nat}{d hd b:D}{l vl:List D}{kd:Str}{e:List (aG×D)}{K:List aG}{rs ss:List (Int×Int)}{i g:Int}
theorem yk(z:DK e K vl)(hs:∀x ∈ vl,De h x):De (h+1) (.dict .ks e):=by
 obtain⟨f,hf⟩:=F3 hs;have hl':K.length < 1000000:=d9 z.sz (by decide);refine⟨.tup ([.str "dict"]++K.map λx=> .tup [cQ x,f ((aJ e x).getD .none)]),λn=> ?_,λm hm=> ?_⟩
 ·have g:=gT (out:=bh) (acc:=[]) (pn:=none) (o:=O2) (mk:=λx=>V.d (cQ x)) (nx:=λd=>some (V.d (cQ d))) (L:=λy=>some (.d (.dict .ks e))::some (.d (.str "dict"))::none::y::List.replicate 10 none) (bd:=aU 3) (t:=aE iZ (aB aC (af 0) (af 3)) (ai .none)) (e:=cB (aa (af 3) (aa (aq (run (n+(h+1)) 2) (aa (aB aC (af 0) (af 3)) ak)) ak))) (p:=λZ=>true) (f:=λx=> .tup [cQ x,f ((aJ e x).getD .none)]) (l:=K) (y:=none) rfl (λx y=>rfl) (λx hx=>by
   refine cps λPP kk=> ?_;obtain⟨a,v,hv,b⟩:=z.at hx;refine kk ?_;clear kk;have iv:∀o,aC (.d (.dict .ks e)) (.d (cQ x)) o= .ok (.d v) o:=λo=>TG a b;refine⟨aQ (aN rfl rfl (iv _)) rfl (show l9 (!v.isNone) _=_ from by rw[z.nn v hv];rfl) rfl,λZ=> ?_⟩;rw[b];exact eH (aj rfl (aj (au (aj (aN rfl rfl (iv _)) rfl) ((hf v hv).1 n [] rfl)) rfl)) rfl rfl) (by rw[nj,jQ];exact hl')
  rw[List.filter_eq_self.mpr λZ Z=>rfl]at g;exact dH rfl (fE (aA (asg (au (aj rfl rfl) (cC (id:=0) (n:=n+h) (os:=[]) (d:= .str "dict") (by kernel_rfl) rfl rfl rfl rfl))) (aA (ez (aQ rfl rfl rfl rfl) rfl) (bG (ly (aQ rfl rfl rfl rfl) (bG (bZ (aN (eH (aj rfl rfl) rfl rfl) (au (aj (i6 (jB (au (aj rfl rfl) (z.so _)) (congrArg some (dB (f:=cQ) (g:=V.d) (l:=K)))) g) rfl) (JV (by rw[dJ,nj,jQ,cO];exact hl'))) (UW (by
   rw[dJ,nj,jQ,cO];exact d9 (Nat.add_lt_add_left z.sz 1) (by decide)))))))))) rfl)
 ·obtain⟨m,rfl⟩:∃k,m=k+2:=⟨m - 2,by exact SA ‹_› rfl⟩;refine fX λx hx=> ?_;rcases gU.mp hx with q |q
  ·rw[dQ.mp q];exact iC
  ·obtain⟨y,hy,rfl⟩:=mM q;obtain⟨a,v,hv,b⟩:=z.at hy;rw[b];refine fX λw hw=> ?_;rcases cN.mp hw with q |q
   ·rw[q];clear hw hy q b hx;cases y with
    |str s=>exact iC
    |int s=>cases a
    |bytes s=>cases a
   ·rw[dQ.mp q];exact(hf v hv).2 m (by exact Dv (Dv hm))
theorem AG(x:De h hd):De (h+1) (.inst .stream [hd, .bytes w]):=by
 obtain⟨t,a,b⟩:=c2 x;refine⟨.tup [.str "stream",t, .bytes w],λn=>dH rfl (fE (aA (asg (au (aj rfl rfl) (cC (id:=0) (n:=n+h) (os:=[]) (d:= .str "stream") (by kernel_rfl) rfl rfl rfl rfl))) (aA (ez (aQ rfl rfl rfl rfl) rfl) (aA (ez (aQ rfl rfl rfl rfl) rfl) (bG (ly (aQ rfl rfl rfl rfl) (bG (bZ (eH (aj rfl (aj (au (aj (di rfl rfl) rfl) (a n [] rfl)) (aj (au (aj (di rfl rfl) rfl) rfl) rfl))) rfl rfl)))))))) rfl),λm hm=> ?_⟩;obtain⟨m,rfl⟩:∃k,m=k+1:=⟨m - 1,by exact SA ‹_› rfl⟩;refine fX λy hy=> ?_;rcases cN.mp hy with q |q
 ·rw[q];exact iC
 ·rcases cN.mp q with q |q
  ·rw[q];exact b m (by exact YT hm)
  ·rw[dQ.mp q];exact xy
structure Ob(h k:Nat)(d:D)(rs:List (Int×Int)):Prop where
 rf:rH [d] rs k
 tl:De h d
structure JG(h k:Nat)(l:List D)(rs:List (Int×Int)):Prop where
 rf:rH l rs k
 tl:∀x ∈ l,De h x
theorem cD:JG h 0 [] []:=⟨.nil,λZ h=>nomatch h⟩
theorem aV(a:Ob h k d rs)(b:JG h j l ss):JG h (k+j) (d::l) (rs++ss):=⟨a.rf.app b.rf,List.forall_mem_cons.mpr ⟨a.tl,b.tl⟩⟩
theorem dK(a:Ob h k d rs)(hh:h<=h'):Ob h' k d rs:=⟨a.rf,v7 a.tl hh⟩
theorem ee(z:DK e K vl)(x:JG h k vl rs):Ob (h+1) (k+1) (.dict .ks e) rs:=⟨by
 have:=rH.node (L:=[]) (rs:=[]) (λZ=>rfl) (Cm z).pt x.rf .nil
 rwa [fC]at this,yk z x.tl⟩
theorem jJ(x:JG h k l rs)(hk:k < 900000):Ob (h+1) (k+1) (.list l) rs:=by
 have hl:=eG x.rf.len.1 hk;refine⟨?_,Fc x.tl hl⟩;have:=rH.node (L:=[]) (rs:=[]) (λZ=>rfl) (ptL (d9 hl (by decide))) x.rf .nil
 rwa [fC]at this
theorem vg(z:DK e K vl)(x:JG h k vl rs):Ob (h+2) (k+1) (.inst .stream [.dict .ks e, .bytes w]) rs:=⟨by
 have:=rH.node (L:=[]) (rs:=[]) (λZ=>rfl) (ptS (b:= .bytes w) (Cm z)) x.rf .nil
 rwa [fC]at this,AG (yk z x.tl)⟩
theorem jX:Ob 1 1 (rf i g) [(i,g)]:=⟨.ref .nil,yj (kd:="ref") (λn=>by kernel_rfl) (by decide+kernel) (by decide+kernel) (by decide+kernel) (t:=[.str "ref", .int i, .int g]) (λn=>by kernel_rfl) λx hx m=>by
 rcases cN.mp hx with q |q
 ·rw[q];exact iC
 ·rcases cN.mp q with q |q
  ·rw[q];exact ji
  ·rw[dQ.mp q];exact ji⟩
theorem FQ(h:NR d)(p:Pt d []):rH [d] [] 1:= .node (P:=[]) (ps:=[]) (L:=[]) (rs:=[]) h p .nil .nil
theorem wH(nr:NR d)(h0:∀n,fn 0 (run n) [.d d] O2= .ok (.d (.str kd)) O2)(h1:kR kd "array"=false)(h2:kR kd "dict"=false)(h3:kR kd "stream"=false)(h4:∀n,fn 1 (run n) [.d (.str kd), .d d] O2= .ok (.d (.tup [.str kd,t])) O2)(h5:∀m,jM m t t=some true):Ob 1 1 d []:=
 ⟨FQ nr (ptN h0 h1 h2 h3),yj h0 h1 h2 h3 h4 λx hx m=>by
  rcases cN.mp hx with q |q
  ·rw[q];exact iC
  ·rw[dQ.mp q];exact h5 m⟩
noncomputable abbrev wL(s:Str):D:= .inst .name [.str s]
noncomputable abbrev e8(b:List UInt8):D:= .inst .string [.bytes b, .bool false]
theorem qk:Ob 1 1 (.int i) []:=wH (kd:="int") (t:= .int i) (λZ=>rfl) (λn=>by kernel_rfl) (by decide+kernel) (by decide+kernel) (by decide+kernel) (λn=>by kernel_rfl) λZ=>ji
theorem pe:Ob 1 1 (wL s) []:=wH (kd:="name") (t:= .str s) (λZ=>rfl) (λn=>by kernel_rfl) (by decide+kernel) (by decide+kernel) (by decide+kernel) (λn=>by kernel_rfl) λZ=>iC
theorem iV:Ob 1 1 (.inst .string [.bytes w, .bool q]) []:=wH (kd:="string") (t:= .bytes w) (λZ=>rfl) (λn=>by kernel_rfl) (by decide+kernel) (by decide+kernel) (by decide+kernel) (λn=>by kernel_rfl) λZ=>xy
end
noncomputable abbrev kv(s:Str)(d:D):aG×D:=(.str s,d)
noncomputable abbrev Bl:List (aG×D):=[kv "Type" (wL "Catalog"),kv "Lang" (e8 [101,110])]
noncomputable abbrev zE:D:= .dict .ks [kv "Names" (.list [e8 [120], .int 7])]
noncomputable def Nl:Bool->Option D->List (aG×D)
 |true,some t=>[kv "Dests" zE,kv "EmbeddedFiles" t]
 |true,none=>[kv "Dests" zE]
 |false,some t=>[kv "EmbeddedFiles" t]
 |false,none=>[]
inductive lT |inl (ds:Bool) |one |two |no
noncomputable def lT.ds:lT->Bool
 | .inl b=>b
 | .one=>true
 | .two=>true
 | .no=>false
noncomputable abbrev w_(x:D):List (aG×D):=[kv "Type" (wL "Catalog"),kv "Lang" (e8 [101,110]),kv "Names" x]
noncomputable def Jy:lT->Option D->List (aG×D)
 | .inl b,tr=>w_ (.dict .ks (Nl b tr))
 | .one,_=>w_ (rf 60 0)
 | .two,_=>w_ (rf 60 3)
 | .no,_=>Bl
structure Hm(T:List (aG×D))(w:lT)(tr:Option D):Prop where
 r:aJ T (.int 70)=some (fK 2 (.dict .ks (Jy w tr)))
 j:aJ T (.int 40)=some (fK 0 (.list [.int 1, .int 2]))
 n1:w= .one->aJ T (.int 60)=some (fK 0 (.dict .ks (Nl true tr)))
 n2:w= .two->aJ T (.int 60)=some (fK 3 (rf 61 0))/\aJ T (.int 61)=some (fK 0 (.dict .ks (Nl true tr)))
 no:w= .no->tr=none
section
variable{n k:Nat}{T:List (aG×D)}{w:lT}{tr:Option D}{d v:D}{t:KT}{l:List (aG×D)}{ds:Bool}{os:az}
theorem Hm.root(H:Hm T w tr):q_ T 1 (rf 70 2) (.dict .ks (Jy w tr)):= .go H.r (.here λZ=>rfl)
theorem FP:(aJ R0 (.str "Root")).getD .none=rf 70 2:=by kernel_rfl
theorem Hm.JC(H:Hm T w tr):run (n+3) 70 [sh] (O4 T R0)= .ok (.d (.dict .ks (Jy w tr))) (O4 T R0):=Mine.JC FP H.root (by decide)
noncomputable def Ri:lT->Option D->D
 | .inl b,tr=> .dict .ks (Nl b tr)
 | .one,_=>rf 60 0
 | .two,_=>rf 60 3
 | .no,_=> .none
theorem sJ:(aJ (Jy w tr) (.str "Names")).getD .none=Ri w tr:=by cases w<;>kernel_rfl
theorem Hm.nms(H:Hm T w tr):(w= .no/\Ri w tr= .none)\/(w≠ .no/\q_ T 2 (Ri w tr) (.dict .ks (Nl w.ds tr))):=by
 cases w with
 |inl b=>exact .inr ⟨(λh=>nomatch h), .here λZ=>rfl⟩
 |one=>exact .inr ⟨(λh=>nomatch h), .go (H.n1 rfl) (.here λZ=>rfl)⟩
 |two=>exact .inr ⟨(λh=>nomatch h), .go (H.n2 rfl).1 (.go (H.n2 rfl).2 (.here λZ=>rfl))⟩
 |no=>exact .inl ⟨rfl,rfl⟩
theorem V7(H:Hm T w tr):fn 38 (run (n+3)) [sh] (O4 T R0)= .ok (.d (.dict .ks (Nl w.ds tr))) (O4 T R0):=by
 rcases H.nms with⟨rfl,h⟩ |⟨_,h⟩
 ·rw[H.no rfl];have h0:q_ T 0 (Ri .no tr) .none:=h▸ .here λZ=>rfl;exact dH rfl (fh (aA (asg (aL rfl rfl (aj (aL rfl rfl rfl H.JC) (aj rfl rfl)) (bu (HU (n:=n+1) rfl sJ h0 (by decide)) rfl rfl rfl rfl rfl))) (bG (bZ (lu (eO (gV rfl rfl) rfl) rfl)))) rfl rfl)
 ·exact dH rfl (fh (aA (asg (aL rfl rfl (aj (aL rfl rfl rfl H.JC) (aj rfl rfl)) (bu (HU (n:=n+1) rfl sJ h (by decide)) rfl rfl rfl rfl rfl))) (bG (bZ (mj (eO (gV rfl rfl) rfl) rfl)))) rfl rfl)
theorem HD:∃p q,Jy w tr=p::q:=by cases w<;>exact⟨_,_,rfl⟩
theorem ZO(H:Hm T w tr):fn 47 (run (n+3)) [sh] (O4 T R0)= .ok (.d (rf 70 2)) (O4 T R0):=by
 obtain⟨p,q,e⟩:=HD (w:=w) (tr:=tr);have nr:NR (.dict .ks (Jy w tr)):=λZ=>rfl;have ne:gA (.d (.dict .ks (Jy w tr))) (.d (.dict .ks [])) (O4 T R0)= .ok (.d (.bool true)) (O4 T R0):=by rw[e];rfl
 exact dH rfl (fh (aA (asg (mj (aQ (aL rfl rfl rfl H.JC) rfl ne rfl) (au (aj rfl (aj (aL (di rfl rfl) rfl (aj rfl rfl) (show _=aR.ok (V.d (rf 70 2)) _ from congrArg (λd=>aR.ok (V.d d) _) FP)) rfl)) (bu (XZ (.here (T:=T) (k:=0) H.r nr) (by decide)) rfl rfl rfl rfl rfl)))) (aA (ez (aQ rfl rfl rfl rfl) rfl) (bG (bZ rfl)))) rfl rfl)
theorem wkH:fn 46 (run n) [.d (.dict .ks (Jy w tr)), .d (.str "Names"), .d (.dict .ks N)] O2= .ok (.d (.dict .ks (w_ (.dict .ks N)))) O2:=by cases w<;>kernel_rfl
theorem wkN:fn 46 (run n) [.d (.dict .ks (Nl ds tr)), .d (.str "EmbeddedFiles"), .d (.dict t l)] O2= .ok (.d (.dict .ks (Nl ds (some (.dict t l))))) O2:=by cases ds<;>cases tr<;>kernel_rfl
theorem Wn:fn 46 (run n) [.d (.dict .ks (Nl ds tr)), .d (.str "EmbeddedFiles"), .d .none] O2= .ok (.d (.dict .ks (Nl ds none))) O2:=by cases ds<;>cases tr<;>kernel_rfl
theorem Qh:(aJ (Nl ds tr) (.str "EmbeddedFiles")).getD .none=tr.getD .none:=by cases ds<;>cases tr<;>kernel_rfl
end
noncomputable abbrev NP:=List UInt8×D
noncomputable abbrev pr(p:NP):D:= .tup [.bytes p.1,p.2]
noncomputable abbrev lF(l:List NP):List NP:=gH (λa b=>cP.blt a.1 b.1) l
theorem CK{lt':β->β->Bool}{g:α->β}(e:∀a b,lt' (g a) (g b)=lt a b)(x:α):∀l:List α,uG lt' (g x) (l.map g)=(uG lt x l).map g
 | []=>rfl
 |y::r=>by
  show(if lt' (g y) (g x)=true then _ else _)=(if lt y x=true then _ else _:List α).map g;rw[e,CK e x r];split<;>rfl
theorem rV{lt':β->β->Bool}{g:α->β}(e:∀a b,lt' (g a) (g b)=lt a b):∀l:List α,gH lt' (l.map g)=(gH lt l).map g
 | []=>rfl
 |x::l=>by
  show uG lt' (g x) (gH lt' (l.map g))=_;rw[rV e l,CK e];rfl
theorem DL(ps:List NP):yw (ps.map pr)=(lF ps).map pr:=rV (λZ Z=>rfl) ps
theorem CS{nx:α->β}{L:β->bL}(hb:∀x y,bd (mk x) (L y) o= .ok (L (nx x)) o):∀{l:List α}{y:β},(∀x ∈ l,A (L (nx x)) o= .ok (.next (L (nx x))) o)->∃y',jb none bd A (l.map mk) (L y) o= .ok (.next (L y')) o
 | [],y,_=>⟨y,rfl⟩
 |x::l,y,hs=>let⟨y',e⟩:=CS hb (l:=l) (y:=nx x) λz hz=>hs z (.tail _ hz);⟨y',fH (hb x y) (hs x (.head _)) e⟩
section
variable{n k m:Nat}{l:List D}{o os:az}{d v x y:D}{ps:List NP}{p:NP}{T:List (aG×D)}
theorem yV(hl:l.length < 1000000):dj (.d (.list l)) o= .ok (.d (.int (l.length:Int))) o:=by
 show bz (c6 l.length) _=_;rw[bR hl];rfl
theorem uF{a:Nat}(hl:l.length < 1000000)(ha:l[a]? =some d):aC (.d (.list l)) (.d (.int (a:Int))) o= .ok (.d d) o:=TF rfl rfl rfl hl ha
theorem X7:fn 22 (run n) [.d (.str "Names"), .d (.bytes w)] O2= .ok (.d (e8 w)) O2:=by kernel_rfl
theorem Rr:fn 36 (run n) [.d (.dict .ks [kv "Limits" x,kv "Names" y])] O2= .ok (.d (.dict .ks [kv "Names" y])) O2:=by kernel_rfl
theorem Uv(h:a≠b):gi (.d (.bytes a)) (.d (.bytes b)) o= .ok (.d (.bool false)) o:=by
 show bx (some (decide (a=b))) _=_;rw[fM h];rfl
theorem f33(h0:l≠[])(hl:l.length<=32):fn 33 (run n) [.d (.list l), .d (.int 32)] O2= .ok (.d (.list [.list l])) O2:=by
 have hl':l.length < 1000000:=eG hl (by decide);have hp:0 < l.length:=List.length_pos_iff.mpr h0;have e1:((l.length:Int)+32 - 1).fdiv 32=1:=by
  rw[Int.fdiv_eq_ediv_of_nonneg _ (by decide)];exact zi3 _ (Nat.lt_succ_of_le hl) hp
 have e2:(0:Int)+(l.length:Int).fdiv 1+0=l.length:=by rw[Int.fdiv_one];exact(Int.add_zero _).trans (Int.zero_add _)
 have e3:(l.length:Int).fmod 1=0:=by rw[Int.fmod_one]
 have e4:cut l (some (0:Int).toNat) (some ((l.length:Int)).toNat)=l:=by
  unfold cut;show((l.drop (min 0 l.length)).take (min l.length l.length - min 0 l.length))=l;rw[Nat.zero_min,Nat.min_self];exact List.take_length
 have g1:∀{loc:bL}{o:az},loc[0]? =some (some (.d (.list l)))->aq (bB dj) (aa (af 0) ak) loc o= .ok (.d (.int (l.length:Int))) o:=λ{loc o} h=>au (aj (show af 0 loc o= .ok (.d (.list l)) o from by unfold af;rw[h]) rfl) (yV hl');exact dH rfl (fh (o1:=[.tab 0, .tab 1, .list [.list l]]) (v:= .h 2) (aA (asg (aN (aN (aN (g1 rfl) rfl rfl) rfl rfl) rfl (show j7 _ _ _=aR.ok (V.d (.int 1)) O2 from by show pU _ _=_;rw[e1];rfl))) (aA (asg (yQ rfl rfl rfl)) (aA (asg rfl) (aA (mw (oh (r:=(0,1,1)) (aj rfl rfl) rfl rfl) (fH (vs:=[]) rfl (aA (asg (aN (aN rfl (aN (g1 rfl) rfl (show j7 _ _ _=aR.ok (V.d (.int ((l.length:Int).fdiv 1))) _ from rfl)) rfl) (lu (aQ rfl (aN (g1 rfl) rfl rfl) (show l9 (decide ((0:Int)+1 * 0 < (l.length:Int).fmod 1)) _= .ok (.d (.bool false)) _ from by rw[e3];rfl) rfl) rfl) (show pU ((0:Int)+(l.length:Int).fdiv 1+0) _= .ok (.d (.int (l.length:Int))) _ from by rw[e2];rfl))) (aA (iX (aL rfl rfl (aj (show uL _ _ _ _ _=aR.ok (V.d (.list l)) _ from by
  show bz (decide ((0:Int)<=(l.length:Int))) (bx (some l) λl'=>bz (c6 l'.length) (aR.ok (V.d (.list (cut l' (some (0:Int).toNat) (some ((l.length:Int)).toNat)))) _))=_;rw[cM (n6 _)];show bz (c6 l.length) _=_;rw[bR hl',e4];rfl) rfl) rfl)) (aA (asg rfl) rfl))) rfl)) (bG (bZ rfl)))))) rfl rfl)
end
section
variable{o o1 o2 o3:az}{loc:bL}{v a b:V}{f g:DE}{r:N3}{qs:List (V×V)}{R:aR V}{ks:List aG}{ds:List D}{m:Bool}{t:KT}
theorem sy(h:f loc o= .ok a o1)(h2:g loc o1= .ok b o2)(h3:r loc o2= .ok qs o3):bW f g r loc o= .ok ((a,b)::qs) o3:=gj h (gj h2 (gj h3 rfl))
theorem Bw(h:r loc o= .ok qs o1)(h2:sV t (qs.map (λZ=>Z.1))=some ks)(h3:jD (qs.map (λZ=>Z.2)) o1= .ok ds o2)(h4:wN m (.dict t (rA [] (ks.zip ds))) o2=R):cV m t r loc o=R:=gj h (by show bx (sV t (qs.map (λZ=>Z.1))) _=_;rw[h2];exact gj h3 h4)
theorem Ph(h:f loc o= .ok (.d (.int i)) o1):zH f loc o= .ok (.d (.int (-i))) o1:=gj h rfl
end
noncomputable def gX(ps:List NP):List D:=ps.flatMap λp=>[e8 p.1,p.2]
noncomputable abbrev fu(ps:List NP):D:= .dict .ks [kv "Names" (.list (gX ps))]
section
variable{n k m:Nat}{l:List D}{o os:az}{d v x y:D}{ps:List NP}{p:NP}{T:List (aG×D)}
theorem vt(h0:a0=some (.d (.str "Names"))):∀{ps:List NP}{acc:List D}{y3 y4:Option V},acc.length+2 * ps.length < 1000000->
  ∃z3 z4,jb none (jE [3,4]) (M3 (run (n+1))) (ps.map λp=>V.d (pr p)) (a0::a1::some (.h 2)::y3::y4::tl) [.tab 0, .tab 1, .list acc]= .ok (.next (a0::a1::some (.h 2)::z3::z4::tl)) [.tab 0, .tab 1, .list (acc++gX ps)]
 | [],acc,y3,y4,_=>⟨y3,y4,by show _=aR.ok _ [_,_,aH.list (acc++[])];rw[fC];rfl⟩
 |p::ps,acc,y3,y4,hl=>by
  subst h0;have h1:acc.length < 999999:=by rw[jS]at hl;exact vY (eG (iR (cS (oR 1) (uq 2 (2 * _))) _) hl)
  have ap:∀{x:D}{acc:List D},acc.length < 1000000->fG (.h 2) (.d x) [.tab 0, .tab 1, .list acc]= .ok (.d .none) [.tab 0, .tab 1, .list (acc++[x])]:=λ{x acc} h=>by
   show bz (c6 acc.length) _=_;rw[bR h];rfl
  obtain⟨z3,z4,e⟩:=vt (a1:=a1) (tl:=tl) rfl (ps:=ps) (acc:=acc++[e8 p.1]++[p.2]) (y3:=some (.d (.bytes p.1))) (y4:=some (.d p.2)) (by rw[dJ,dJ];rw[jS]at hl;exact eG (by simp only[List.length_cons,List.length_nil];exact Nat.le_of_eq ((Nat.add_assoc acc.length 2 (2 * ps.length)).trans (congrArg (λZ=>acc.length+Z) (Nat.add_comm 2 (2 * ps.length))))) hl);refine⟨z3,z4,fH rfl (aA (iX (aL rfl rfl (aj (au (aj rfl (aj rfl rfl)) (cC X7 rfl rfl rfl rfl)) rfl) (ap (d9 h1 (by decide))))) (aA (iX (aL rfl rfl (aj rfl rfl) (ap (by rw[dJ];exact Nat.succ_lt_succ h1)))) rfl)) (e.trans ?_)⟩;rw[jA,jA];rfl
theorem K5(hl:l.length < 1000000)(h:l.getLast?=some d):aC (.d (.list l)) (.d (.int (-1))) o= .ok (.d d) o:=by
 have hp:0 < l.length:=List.length_pos_iff.mpr λe=>by rw[e]at h;cases h
 show bz (c6 l.length) (bx (Qu l (-1)) _)=_;rw[bR hl];unfold Qu idx;rw[aZ (by rw[fM (λq=>absurd q.1 (by decide))];decide),bw (cM ⟨by decide,by exact Int.neg_le_neg (pZ.mpr hp)⟩)];show bx (l[((-1:Int)+l.length).toNat]?) _=_;rw[show((-1:Int)+l.length).toNat=l.length - 1 by exact Z_ hp, <-List.getLast?_eq_getElem?,h];rfl
theorem f34(h0:ps≠[])(hl:ps.length < 1000):∃x,fn 34 (run (n+1)) [.d (.str "Names"), .d (.list (ps.map pr))] O2= .ok (.d (.dict .ks [kv "Limits" x,kv "Names" (.list (gX ps))])) O2:=by
 obtain⟨p0,hp0⟩:∃p,ps[0]? =some p:=by cases ps with |nil=>exact absurd rfl h0 |cons p r=>exact⟨p,rfl⟩
 obtain⟨p1,hp1⟩:∃p,ps.getLast?=some p:=⟨_,List.getLast?_eq_some_getLast h0⟩;have hl':(ps.map pr).length < 1000000:=by rw[cO];exact d9 hl (by decide)
 obtain⟨z3,z4,e⟩:=vt (n:=n) (a0:=some (.d (.str "Names"))) (a1:=some (.d (.list (ps.map pr)))) (tl:=List.replicate 12 none) rfl (ps:=ps) (acc:=[]) (y3:=none) (y4:=none) (by rw[nj];exact eG (KI (a:=1000) (b:=2000) (jz hl) rfl) (by decide));have i0:∀{o:az},aC (.d (.list (ps.map pr))) (.d (.int 0)) o= .ok (.d (pr p0)) o:=λ{o}=>uF (a:=0) hl' (by rw[gB,hp0];rfl);have i1:∀{o:az},aC (.d (.list (ps.map pr))) (.d (.int (-1))) o= .ok (.d (pr p1)) o:=λ{o}=>K5 hl' (by rw[List.getLast?_map,hp1];rfl);exact⟨.list [e8 p0.1,e8 p1.1],dH rfl (fh (aA (asg (yQ rfl rfl rfl)) (aA (mw (jB rfl (congrArg some (dB (f:=pr) (g:=V.d) (l:=ps)))) e) (bG (bZ (Bw (sy rfl (kF (aj (au (aj rfl (aj (aN (aN rfl rfl i0) rfl rfl) rfl)) (cC X7 rfl rfl rfl rfl)) (aj (au (aj rfl (aj (aN (aN rfl (Ph rfl) i1) rfl rfl) rfl)) (cC X7 rfl rfl rfl rfl)) rfl)) rfl rfl) (sy rfl rfl rfl)) rfl rfl (show wN false (.dict .ks (rA [] (([.str "Limits", .str "Names"]:List aG).zip [.list [e8 p0.1,e8 p1.1], .list (gX ps)]))) [.tab 0, .tab 1, .dead]= .ok (.d (.dict .ks [kv "Limits" (.list [e8 p0.1,e8 p1.1]),kv "Names" (.list (gX ps))])) [.tab 0, .tab 1, .dead]from by kernel_rfl)))))) rfl rfl)⟩
theorem WM:∀m:Nat,m < 33->MA (1,(m:Int),1)=true:=by decide+kernel
theorem Fy(h:(ps.map (λZ=>Z.1)).Nodup):((lF ps).map (λZ=>Z.1)).Nodup:=((cu ps).map (λZ=>Z.1)).nodup_iff.mpr h
theorem skE(h:fs loc o= .ok [.d (.list l)] os)(h2:vC os i j=true)(h3:Nat.blt l.length 64=true)(h4:(l.all λd=>(Eb d).isSome)=true)(h5:(l.map lS).Nodup):pJ i j fs loc o= .ok (.d (.list (yw l))) os:=gj h (by
 show bz _ _=_;rw[h2,h3,h4,cM h5];rfl)
theorem f37(h0:ps≠[])(hl:ps.length<=32)(nd:(ps.map (λZ=>Z.1)).Nodup):fn 37 (run (n+2)) [.d (.list (ps.map pr)), .d (.str "Names"), .d (.int 32)] O2= .ok (.d (fu (lF ps))) O2:=by
 have hs:(lF ps).length=ps.length:=(cu ps).length_eq;have q0:lF ps≠[]:=λe=>h0 (List.length_eq_zero_iff.mp (by rw[<-hs,e];rfl));have ql:(lF ps).length<=32:=hs▸hl;have qn:=Fy nd;have sk:=skE (i:=0) (j:=0) (fs:=aa (af 0) ak) (loc:=some (.d (.list (ps.map pr)))::some (.d (.str "Names"))::some (.d (.int 32))::List.replicate 15 none) (o:=O2) (l:=ps.map pr) rfl rfl (by rw[cO];exact Nat.ble_eq_true_of_le (eG hl (by decide))) (by rw[List.all_map];exact cZ.mpr λZ Z=>rfl) (by rw[dB];exact nd);rw[DL]at sk;generalize lF ps=qs at q0 ql qn sk;have qm:(qs.map pr).length < 1000000:=by rw[cO];exact eG ql (by decide)
 have len:∀{o:az}{e:DE}{loc:bL},e loc o= .ok (.d (.list (qs.map pr))) o->aq (bB dj) (aa e ak) loc o= .ok (.d (.int (qs.length:Int))) o:=λ{o e loc} h=>au (aj h rfl) (by rw[<-cO (f:=pr) (as:=qs)];exact yV qm);obtain⟨x,e34⟩:=f34 (n:=n) q0 (eG ql (by decide));obtain⟨y4,e⟩:=CS (mk:=λj:Nat=>V.d (.int (1+1 * (j:Int)))) (nx:=λj=>some (V.d (.int (1+1 * (j:Int))))) (L:=λy=>some (.d (.list (ps.map pr)))::some (.d (.str "Names"))::some (.d (.int 32))::some (.d (.list (qs.map pr)))::y::List.replicate 13 none) (bd:=aU 4) (A:=M1 (run (n+2))) (o:=O2) (λx y=>rfl) (l:=List.range (Builtin.Range.rangeSize 1 (qs.length:Int) 1).toNat) (y:=none) λj hj=>by
  have hj:j < (Builtin.Range.rangeSize 1 (qs.length:Int) 1).toNat:=List.mem_range.mp hj;have hj2:j+1 < qs.length:=by
   unfold Builtin.Range.rangeSize at hj;have:(0:Int) < qs.length:=qX.mpr (List.length_pos_iff.mpr q0);simp at hj;split at hj;exact qX.mp (Int.add_lt_of_lt_sub_right hj);exact absurd hj (Int.not_lt.mpr (n6 j))
  have e1:qs[j]? =some qs[j]:=je (vU hj2);have e2:qs[j+1]? =some qs[j+1]:=je hj2;have ne:qs[j].1≠qs[j+1].1:=λq=>by
   have:=Dw.mp (List.nodup_iff_pairwise_ne.mp qn) j (j+1) (by rw[cO];exact vU hj2) (by rw[cO];exact hj2) (Nat.lt_succ_self _);rw[List.getElem_map,List.getElem_map]at this;exact this q
  have i1:aC (.d (.list (qs.map pr))) (.d (.int (1+1 * (j:Int) - 1))) O2= .ok (.d (pr qs[j])) O2:=by
   rw[show(1+1 * (j:Int) - 1)=(j:Int)by rw[Int.one_mul,Int.add_comm,Int.add_sub_cancel]];exact uF qm (by rw[gB,e1];rfl)
  have i2:aC (.d (.list (qs.map pr))) (.d (.int (1+1 * (j:Int)))) O2= .ok (.d (pr qs[j+1])) O2:=by
   rw[show(1+1 * (j:Int))=((j+1:Nat):Int)by rw[Int.one_mul,Int.add_comm];rfl];exact uF qm (by rw[gB,e2];rfl)
  exact aA (ez (aQ (aN (aN rfl (aN rfl rfl rfl) i1) rfl rfl) (aN (aN rfl rfl i2) rfl rfl) (Uv ne) rfl) rfl) rfl
 have rk:MA (1,(qs.length:Int),1)=true:=WM _ (Nat.lt_succ_of_le ql);have hm:(jV 1 1 (Builtin.Range.rangeSize 1 (qs.length:Int) 1).toNat)=(List.range (Builtin.Range.rangeSize 1 (qs.length:Int) 1).toNat).map λj:Nat=>V.d (.int (1+1 * (j:Int))):=rfl;exact dH rfl (fE (aA (ez (aQ rfl rfl rfl rfl) rfl) (aA (asg sk) (aA (mw (oh (r:=(1,(qs.length:Int),1)) (aj rfl (aj (len rfl) rfl)) rfl rk) e) (aA (ez (aQ (len rfl) rfl (show l9 (decide ((qs.length:Int)=0)) _= .ok (.d (.bool false)) _ from by rw[fM λq=>q0 (List.length_eq_zero_iff.mp (Int.ofNat_eq_zero.mp q))];rfl) rfl) rfl)
  (aA (asg (i6 (jB (au (aj rfl (aj rfl rfl)) (cC (f33 (l:=qs.map pr) (λq=>q0 (List.map_eq_nil_iff.mp q)) (by rw[cO];exact ql)) rfl rfl rfl rfl)) rfl) (fQ (out:=bh) (pn:=none) (o:=O2) (mk:=V.d) (nx:=λy=>some (V.d y)) (Lo:=λy=>some (.d (.list (ps.map pr)))::some (.d (.str "Names"))::some (.d (.int 32))::some (.d (.list (qs.map pr)))::y4::none::none::y::List.replicate 10 none) (bd:=aU 7) (e:=aq (run (n+2) 34) (aa (af 1) (aa (af 7) ak))) (f:=λZ=> .dict .ks [kv "Limits" x,kv "Names" (.list (gX qs))]) (l:=[.list (qs.map pr)]) (y:=none) rfl (λx y=>rfl) (λz hz=>by
   cases dQ.mp hz;exact au (aj rfl (aj rfl rfl)) (cC e34 rfl rfl rfl rfl)) (show 1 < 1000000 by decide)))) (aA (DA (aQ (au (aj rfl rfl) rfl) rfl rfl rfl)) (bG (bZ (au (aj (aN rfl rfl rfl) rfl) (cC Rr rfl rfl rfl rfl)))))))))) rfl)
end
section
variable{n k m:Nat}{l:List D}{o os:az}{d v x y:D}{ps:List NP}{p:NP}{T R e:List (aG×D)}{w:List UInt8}{i:Int}
theorem tC:∀ps:List NP,(gX ps).length=2 * ps.length
 | []=>rfl
 |p::ps=>by
  show(gX ps).length+1+1=_;rw[tC ps];rfl
theorem CU:∀{ps:List NP}{j:Nat}{p:NP},ps[j]? =some p->(gX ps)[2 * j]? =some (e8 p.1)/\(gX ps)[2 * j+1]? =some p.2
 |p::ps,0,_,h=>by cases h;exact⟨rfl,rfl⟩
 |p::ps,j+1,q,h=>CU (ps:=ps) h
 | [],_,_,h=>by cases h
theorem f23:fn 23 (run n) [.d (.str "Names"), .d (e8 w)] O2= .ok (.d (.bytes w)) O2:=by kernel_rfl
theorem ZQ(h:q_ T k v (.dict .ks e))(hk:k < 30):fn 24 (run (n+1)) [sh, .d v] (O4 T R)= .ok (.d (.dict .ks e)) (O4 T R):=
 dH rfl (fE (aA (asg (aL rfl rfl (aj rfl rfl) (Ao h hk))) (aA (ez (wJ (eO (gV rfl rfl) rfl)) rfl) (bG (bZ rfl)))) rfl)
theorem f25(hv:(aJ e (.str s)).getD .none= .list l):fn 25 (run (n+2)) [sh, .d (.dict .ks e), .d (.str s)] (O4 T R)= .ok (.d (.list l)) (O4 T R):=
 dH rfl (fE (aA (asg (aL rfl rfl (aj rfl (aj rfl rfl)) (bu (HU (n:=n) (k:=0) rfl hv (.here λZ=>rfl) (by decide)) rfl rfl rfl rfl rfl))) (aA (ez (wJ (eO (gV rfl rfl) rfl)) rfl) (bG (bZ rfl)))) rfl)
theorem WN:∀m:Nat,m < 33->MA (0,((2 * m:Nat):Int),2)=true/\(Builtin.Range.rangeSize 0 ((2 * m:Nat):Int) 2).toNat=m/\((2 * m:Nat):Int).fmod 2=0:=by decide+kernel
theorem Bp:(aJ ([kv "Names" (.list l)]:List (aG×D)) (.str "Names")).getD .none= .list l:=by kernel_rfl
theorem ZP(hl:ps.length<=32):fn 26 (run (n+3)) [sh, .d (fu ps), .d (.str "Names")] (O4 T R)= .ok (.d (.list (ps.map pr))) (O4 T R):=by
 obtain⟨r1,r2,r3⟩:=WN ps.length (Nat.lt_succ_of_le hl);have ql:(gX ps).length < 1000000:=by rw[tC];exact KL ‹_› rfl
 have Sz:dX (.d (.str "Names")) (.d (fu ps)) (O4 T R)= .ok (.d (.bool false)) (O4 T R):=by kernel_rfl
 have len:∀{o:az}{e:DE}{loc:bL},e loc o= .ok (.d (.list (gX ps))) o->aq (bB dj) (aa e ak) loc o= .ok (.d (.int ((2 * ps.length:Nat):Int))) o:=λ{o e loc} h=>au (aj h rfl) (by rw[<-tC];exact yV ql);have g:=fQ (out:=bh) (pn:=none) (o:=O4 T R) (mk:=λq:NP×Nat=>V.d (.int (0+2 * (q.2:Int)))) (nx:=λq=>some (V.d (.int (0+2 * (q.2:Int))))) (Lo:=λy=>some sh::some (.d (fu ps))::some (.d (.str "Names"))::some (.d (.list (gX ps)))::none::y::List.replicate 10 none) (bd:=aU 5)
  (e:=cB (aa (aq (run (n+3) 23) (aa (af 2) (aa (aO aI (run (n+3) 64) (af 0) (aa (aB aC (af 3) (af 5)) ak)) ak))) (aa (aB aC (af 3) (aB cF (af 5) (ai (.int 1)))) ak))) (f:=λq=>pr q.1) (l:=ps.zipIdx) (y:=none) rfl (λx y=>rfl) (λq hq=>by
  obtain⟨h1,h2⟩:=CU (List.mk_mem_zipIdx_iff_getElem?.mp hq);have i1:aC (.d (.list (gX ps))) (.d (.int (0+2 * (q.2:Int)))) (O4 T R)= .ok (.d (e8 q.1.1)) (O4 T R):=by
   rw[show(0+2 * (q.2:Int))=((2 * q.2:Nat):Int)by exact Int.zero_add _];exact uF ql h1
  have i2:aC (.d (.list (gX ps))) (.d (.int (0+2 * (q.2:Int)+1))) (O4 T R)= .ok (.d q.1.2) (O4 T R):=by
   rw[show(0+2 * (q.2:Int)+1)=((2 * q.2+1:Nat):Int)by exact congrArg (λZ=>Z+1) (Int.zero_add _)];exact uF ql h2
  exact eH (aj (au (aj rfl (aj (aL rfl rfl (aj (aN rfl rfl i1) rfl) (Ao (n:=n+2) (k:=0) (.here λZ=>rfl) (by decide))) rfl)) (cC f23 rfl rfl rfl rfl)) (aj (aN rfl (aN rfl rfl rfl) i2) rfl)) rfl rfl) (by rw[List.length_zipIdx];exact pA ‹_› rfl)
 have e1:ps.zipIdx.map (λq:NP×Nat=>pr q.1)=ps.map pr:=by
  rw[show(λq:NP×Nat=>pr q.1)=pr∘Prod.fst from rfl, <-dB,List.zipIdx_map_fst]
 have e2:jV 0 2 (Builtin.Range.rangeSize 0 ((2 * ps.length:Nat):Int) 2).toNat=ps.zipIdx.map λq:NP×Nat=>V.d (.int (0+2 * (q.2:Int))):=by
  rw[r2,show(λq:NP×Nat=>V.d (.int (0+2 * (q.2:Int))))=(λj:Nat=>V.d (.int (0+2 * (j:Int))))∘Prod.snd from rfl, <-dB,List.zipIdx_map_snd, <-List.range_eq_range']
  rfl
 rw[e1]at g;exact dH rfl (fE (aA (ez (aQ rfl rfl Sz rfl) rfl) (aA (asg (au (aj rfl (aj rfl (aj rfl rfl))) (bu (f25 (n:=n) Bp) rfl rfl rfl rfl rfl))) (aA (ez (aQ (aN (len rfl) rfl rfl) rfl (show bx (some (decide (((2 * ps.length:Nat):Int).fmod 2=0))) (λr=>l9 (!r) _)= .ok (.d (.bool false)) _ from by rw[r3];rfl) rfl) rfl)
  (bG (bZ (i6 ((oh (r:=(0,((2 * ps.length:Nat):Int),2)) (aj rfl (aj (len rfl) (aj rfl rfl))) rfl r1).trans (congrArg (λl=>aR.ok (l,none) _) e2)) g)))))) rfl)
theorem f28:fn 28 (run n) [.d (.tup []), .d (.dict .ks e), .h 2] [.tab 0, .tab 1, .bO S]= .ok (.d (.tup [.tup [.int (-1), .int (-1)]])) [.tab 0, .tab 1, .bO S]:=
 dH rfl (fE (aA (asg (eH (aj (Ph rfl) (aj (Ph rfl) rfl)) rfl rfl)) (aA (ez (eO (gV rfl rfl) rfl) rfl) (aA (ez (aQ (au (aj rfl rfl) rfl) rfl rfl rfl) rfl) (bG (bZ (aN rfl (eH (aj rfl rfl) rfl rfl) rfl)))))) rfl)
theorem f29(hl:ps.length<=32):fn 29 (run (n+4)) [sh, .d (fu ps), .d (.str "Names")] (O4 T R)= .ok (.d (.list (ps.map pr))) (O4 T R):=by
 have Sz:∀os,uK (.d (.str "Kids")) (.d (fu ps)) os= .ok (.d (.bool false)) os:=λos=>by kernel_rfl
 have ext:jL (.h 4) (.d (.list (ps.map pr))) (O4 T R++[.list [], .bO [], .list []])= .ok (.d .none) (O4 T R++[.list (ps.map pr), .bO [], .list []]):=by
  show bz (c6 (0+(ps.map pr).length)) (aR.ok (V.d .none) (O4 T R++[.list ([]++ps.map pr), .bO [], .list []]))=_;rw[jQ,cO,bR (eG hl (by decide))];rfl
 exact dH rfl (fh (o1:=O4 T R++[.list (ps.map pr), .bO [], .list []]) (v:= .h 4) (aA (asg (yQ rfl rfl rfl)) (aA (asg rfl) (aA (asg (yQ (aj (eH (aj rfl (aj (eH rfl rfl rfl) rfl)) rfl rfl) rfl) rfl rfl)) (aA (yg (aQ (au (aj rfl rfl) rfl) rfl rfl rfl) (aA (lW (aL rfl rfl rfl rfl) rfl) (aA (asg (au (aj rfl (aj rfl (aj rfl rfl))) (bu (o₀:=[.tab 0, .tab 1, .bO []]) f28 rfl rfl rfl rfl rfl))) (aA (asg (au (aj rfl (aj rfl rfl)) (cL (os:=[.list [], .bO [], .list []]) (ZQ (n:=n+2) (k:=0) (.here λZ=>rfl) (by decide)) rfl rfl rfl rfl)))
  (aA (ez (aQ rfl rfl (Sz _) rfl) (aA (iX (aL rfl rfl (aj (au (aj rfl (aj rfl (aj rfl rfl))) (cL (os:=[.list [], .bO [], .list []]) (ZP (n:=n) hl) rfl rfl rfl rfl)) rfl) ext)) rfl)) rfl)))) (DA (aQ (au (aj rfl rfl) rfl) rfl rfl rfl))) (bG (bZ rfl)))))) rfl rfl)
end
noncomputable abbrev Lb(ks:List (List UInt8))(w:List UInt8)(a:Nat):Prop:=a<=ks.length/\(∀i x,ks[i]? =some x->i < a->cP.blt x w=true)/\∀i x,ks[i]? =some x->a<=i->cP.blt x w=false
section
variable{n k m:Nat}{l:List D}{o os:az}{d v x y:D}{ps:List NP}{p:NP}{T R e:List (aG×D)}{w:List UInt8}{i:Int}{ks:List (List UInt8)}
theorem blt_eq:blt a b=cP.blt a b:=Gb a b
theorem Zl:uJ (.d (.bytes a)) (.d (.bytes b)) o= .ok (.d (.bool (cP.blt a b))) o:=by
 show aR.ok (V.d (.bool (blt a b))) o=_;rw[blt_eq]
noncomputable def YM(ks:List (List UInt8))(w:List UInt8)(tl:bL)(lo hi:Nat)(y:Option V):bL:=some (.d (.list (ks.map .bytes)))::some (.d (.bytes w))::some (.d (.int (lo:Int)))::some (.d (.int (hi:Int)))::y::tl
inductive Z6(ks:List (List UInt8))(w:List UInt8)(tl:bL)(n m lo hi:Nat)(y:Option V):Prop
 |mk (a:Nat) (z:Option V) (h:Lb ks w a) (e:eB (aE uJ (af 2) (af 3)) (M4 (run n)) (m+1) (YM ks w tl lo hi y) O2= .ok (.next (YM ks w tl a a z)) O2)
section
variable{lo hi a m i j:Nat}{x y:List UInt8}{tl:bL}{z:Option V}{o:az}
theorem wQ(h:lo < hi):lo<=(lo+hi) / 2/\(lo+hi) / 2 < hi:=by exact⟨(Nat.le_div_iff_mul_le (by decide)).mpr (by rw[Nat.mul_two];exact iR (jz h) lo),(Nat.div_lt_iff_lt_mul (by decide)).mpr (by rw[Nat.mul_two];exact Nat.add_lt_add_right h hi)⟩
theorem CO(h3:hi - lo < 2 ^ (m+1))(h:lo < hi):hi - ((lo+hi) / 2+1) < 2 ^ m/\(lo+hi) / 2 - lo < 2 ^ m:=by
 rw[Nat.pow_succ]at h3;exact⟨Nat.lt_of_mul_lt_mul_right (a:=2) (eG (by rw[Nat.sub_mul,Nat.sub_le_iff_le_add];exact cS (jR (by rw[Nat.mul_two, <-oS,Nat.sub_add_cancel (jz h)])) (iR (jz ((Nat.div_lt_iff_lt_mul (by decide)).mp (Nat.lt_succ_self _))) (hi - lo))) h3),Nat.lt_of_mul_lt_mul_right (a:=2) (eG (by rw[Nat.sub_mul,Nat.sub_le_iff_le_add];exact cS (Nat.div_mul_le_self _ 2) (jR (by rw[Nat.mul_two, <-oS,Nat.sub_add_cancel (jz h),ng]))) h3)⟩
theorem MQ:j7 (.d (.int ((lo:Int)+(hi:Int)))) (.d (.int 2)) o= .ok (.d (.int (((lo+hi) / 2:Nat):Int))) o:=by
 show pU (((lo:Int)+(hi:Int)).fdiv 2) _=_;rw[Int.fdiv_eq_ediv_of_nonneg _ (by decide)];rfl
theorem WB(h:decide (lo < hi)=b):aE uJ (af 2) (af 3) (YM ks w tl lo hi z) O2= .ok b O2:=
 aQ rfl rfl (show l9 (decide ((lo:Int) < (hi:Int))) _= .ok (.d (.bool b)) _ from by rw[vS.mpr qX,h];rfl) rfl
theorem TN(hl:ks.length < 1000)(e:ks[a]? =some x):aC (.d (.list (ks.map .bytes))) (.d (.int (a:Int))) o= .ok (.d (.bytes x)) o:=uF (by rw[cO];exact d9 hl (by decide)) (by rw[gB,e];rfl)
theorem ME(so:ks.Pairwise λa b=>cP.blt b a=false)(hi:ks[i]? =some x)(hj:ks[j]? =some y)(h:i < j):cP.blt y x=false:=by
 have q:=(Dw.mp so) i j (nc.mp hi).1 (nc.mp hj).1 h;rw[(nc.mp hi).2,(nc.mp hj).2]at q;exact q
theorem Wr(so:ks.Pairwise λa b=>cP.blt b a=false)(e:ks[a]? =some x)(c:cP.blt x w=true)(i:Nat)(x':List UInt8)(g:ks[i]? =some x')(h:i < a+1):cP.blt x' w=true:=by
 rcases Nat.lt_or_eq_of_le (Nat.le_of_lt_succ h)with h |rfl
 ·exact(cP.negTrans x x' w c).elim (λq=>Bool.noConfusion ((show cP.blt x x'=true from q).symm.trans (ME so g e h))) id
 ·exact iQ (e.symm.trans g)▸c
theorem Ye(so:ks.Pairwise λa b=>cP.blt b a=false)(e:ks[a]? =some x)(c:cP.blt x w=false)(i:Nat)(x':List UInt8)(g:ks[i]? =some x')(h:a<=i):cP.blt x' w=false:=by
 rcases Nat.lt_or_eq_of_le h with h |rfl
 ·cases cc:cP.blt x' w with
  |false=>rfl
  |true=>exact(cP.negTrans x' x w cc).elim (λq=>Bool.noConfusion ((show cP.blt x' x=true from q).symm.trans (ME so e g h))) λq=>Bool.noConfusion ((show cP.blt x w=true from q).symm.trans c)
 ·exact iQ (e.symm.trans g)▸c
theorem Ny(h1:lo<=hi)(q:¬lo < hi)(h:Lb ks w hi):Z6 ks w tl n m lo hi z:=by
 cases Nat.le_antisymm h1 (pX.mp q);exact⟨lo,z,h,DA (WB (fM q))⟩
theorem HW(so:ks.Pairwise λa b=>cP.blt b a=false)(hl:ks.length < 1000)(m:Nat):∀(lo hi:Nat)(y:Option V),lo<=hi->hi<=ks.length->hi - lo < 2 ^ m->
  (∀i x,ks[i]? =some x->i < lo->cP.blt x w=true)->(∀i x,ks[i]? =some x->hi<=i->cP.blt x w=false)->Z6 ks w tl n m lo hi y:=by
 induction m with
 |zero=>exact λlo hi y h1 h2 h3 h4 h5=>Ny h1 (pX.mpr (Nat.le_of_sub_eq_zero (Nat.lt_one_iff.mp h3))) ⟨h2,λi x g h=>h4 i x g (vV h (Nat.le_of_sub_eq_zero (Nat.lt_one_iff.mp h3))),h5⟩
 |succ m ih=>
  intro lo hi y h1 h2 h3 h4 h5
  by_cases q:lo < hi
  ·have e1:ks[(lo+hi) / 2]? =some ks[(lo+hi) / 2]:=je (vV (wQ q).2 h2);cases c:cP.blt ks[(lo+hi) / 2] w with
   |true=>exact(ih ((lo+hi) / 2+1) hi (some (.d (.int (((lo+hi) / 2:Nat):Int)))) (wQ q).2 h2 (CO h3 q).1 (Wr so e1 c) h5).rec λb z L e=>
     ⟨b,z,L,yg (WB (cM q)) (aA (asg (aN (aN rfl rfl rfl) rfl MQ)) (aA (ly (aQ (aN rfl rfl (TN hl e1)) rfl Zl (by rw[c];rfl)) (aA (asg (aN rfl rfl rfl)) rfl)) rfl)) e⟩
   |false=>exact(ih lo ((lo+hi) / 2) (some (.d (.int (((lo+hi) / 2:Nat):Int)))) (wQ q).1 (cS (jz (wQ q).2) h2) (CO h3 q).2 h4 (Ye so e1 c)).rec λb z L e=>
     ⟨b,z,L,yg (WB (cM q)) (aA (asg (aN (aN rfl rfl rfl) rfl MQ)) (aA (ez (aQ (aN rfl rfl (TN hl e1)) rfl Zl (by rw[c];rfl)) (aA (asg rfl) rfl)) rfl)) e⟩
  ·exact Ny h1 q ⟨h2,λi x g h=>h4 i x g (vV h (pX.mp q)),h5⟩
end
theorem f30(so:ks.Pairwise λa b=>cP.blt b a=false)(hl:ks.length < 500):∃a:Nat,Lb ks w a/\fn 30 (run n) [.d (.list (ks.map .bytes)), .d (.bytes w)] O2= .ok (.d (.int (a:Int))) O2:=by
 obtain⟨a,z,L,e⟩:=HW (n:=n) (w:=w) (tl:=List.replicate 12 none) so (d9 hl (by decide)) 9 0 ks.length none (pY _) (Nat.le_refl _) (d9 hl (by decide)) (λi x Z h=>absurd h (Nat.not_lt_zero i)) (λi x g h=>absurd (nc.mp g).1 (pX.mpr h));exact⟨a,L,dH rfl (fE (aA (asg rfl) (aA (asg (au (aj rfl rfl) ((yV (l:=ks.map .bytes) (by rw[cO];exact d9 hl (by decide))).trans (by rw[cO])))) (aA e (bG (bZ rfl))))) rfl)⟩
noncomputable def oE(ps:List NP)(w:List UInt8):D:=((ps.find? λp=>p.1==w).map (λZ=>Z.2)).getD .none
theorem f32(so:ps.Pairwise λa b=>cP.blt b.1 a.1=false)(nd:(ps.map (λZ=>Z.1)).Nodup)(hl:ps.length<=32):fn 32 (run (n+5)) [sh, .d (fu ps), .d (.str "Names"), .d (.bytes w)] (O4 T R)= .ok (.d (oE ps w)) (O4 T R):=by
 have Sz:dX (.d (.str "Kids")) (.d (fu ps)) (O4 T R)= .ok (.d (.bool true)) (O4 T R):=by kernel_rfl
 have hl':(ps.map pr).length < 1000000:=by rw[cO];exact eG hl (by decide)
 refine cps λPP kk=> ?_;obtain⟨a,⟨L1,L2,L3⟩,e⟩:=f30 (n:=n+3) (w:=w) (ks:=ps.map (λZ=>Z.1)) (lR.mpr so) (by rw[cO];exact pA ‹_› rfl);refine kk ?_;clear kk;rw[cO]at L1;have ld:∀{o:az},dj (.d (.list (ps.map pr))) o= .ok (.d (.int (ps.length:Int))) o:=λ{o}=>(yV hl').trans (by rw[cO]);have cm:a_ [11,12] (bH (af 8)) (aU 12) bN (gu (aB aC (af 12) (ai (.int 0)))) [] bh (some sh::some (.d (fu ps))::some (.d (.str "Names"))::some (.d (.bytes w))::some (.d .none)::some (.d (fu ps))::some (.d (.int 0))::some (.d (fu ps))::some (.d (.list (ps.map pr)))::List.replicate 14 none) (O4 T R)= .ok (.d (.list ((ps.map (λZ=>Z.1)).map .bytes))) (O4 T R):=by
  have g:=fQ (out:=bh) (pn:=none) (o:=O4 T R) (mk:=λq:NP=>V.d (pr q)) (nx:=λq=>some (V.d (pr q))) (Lo:=λy=>some sh::some (.d (fu ps))::some (.d (.str "Names"))::some (.d (.bytes w))::some (.d .none)::some (.d (fu ps))::some (.d (.int 0))::some (.d (fu ps))::some (.d (.list (ps.map pr)))::none::none::none::y::List.replicate 10 none) (bd:=aU 12) (e:=aB aC (af 12) (ai (.int 0))) (f:=λq=> .bytes q.1) (l:=ps) (y:=none) rfl (λx y=>rfl) (λq hq=>aN rfl rfl rfl) (by exact pA ‹_› rfl);rw[dB];exact i6 (jB rfl (congrArg some (dB (f:=pr) (g:=V.d) (l:=ps)))) g
 have iP:eW (gS (aE uJ (af 9) (aq (bB dj) (aa (af 8) ak))) (gS (aE gi (aB aC (aB aC (af 8) (af 9)) (ai (.int 0))) (af 3)) bN)) (aB aC (aB aC (af 8) (af 9)) (ai (.int 1))) (af 4) (some sh::some (.d (fu ps))::some (.d (.str "Names"))::some (.d (.bytes w))::some (.d .none)::some (.d (fu ps))::some (.d (.int 0))::some (.d (fu ps))::some (.d (.list (ps.map pr)))::some (.d (.int (a:Int)))::List.replicate 13 none) (O4 T R)= .ok (.d (oE ps w)) (O4 T R):=by
  have W8:∀{b:Bool}{o:az},decide (a < ps.length)=b->uJ (.d (.int (a:Int))) (.d (.int (ps.length:Int))) o= .ok (.d (.bool b)) o:=λ{b o} h=>by
   show l9 (decide ((a:Int) < (ps.length:Int))) _=_;rw[show decide ((a:Int) < (ps.length:Int))=decide (a < ps.length)from vS.mpr qX,h];rfl
  have pin:∀p ∈ ps,p.1=w->a < ps.length/\ps[a]? =some p:=λp hp hw=>by
   obtain⟨j,hj⟩:=List.mem_iff_getElem?.mp hp;have hj1:=(nc.mp hj).1;have k1:(ps.map (λZ=>Z.1))[j]? =some w:=by rw[gB,hj, <-hw];rfl
   have ja:a<=j:=pX.mp λh=>by have:=L2 j w k1 h;rw[cP.irrefl]at this;cases this
   have ha:a < ps.length:=eG ja hj1;have k2:(ps.map (λZ=>Z.1))[a]? =some ps[a].1:=by rw[gB,je ha];rfl
   have k3:=L3 a _ k2 (Nat.le_refl _);refine⟨ha, ?_⟩;rcases Nat.lt_or_eq_of_le ja with q |rfl
   ·have:=(Dw.mp so) a j ha hj1 q;rw[(nc.mp hj).2,hw]at this;have e1:ps[a].1=w:=cP.total _ _ k3 this;have:=(Dw.mp nd) a j (by rw[cO];exact ha) (by rw[cO];exact hj1) q;rw[List.getElem_map,List.getElem_map,(nc.mp hj).2,e1,hw]at this;exact absurd rfl this
   ·exact hj
  by_cases ha:a < ps.length
  ·have e1:ps[a]? =some ps[a]:=je ha;generalize ps[a]=p at e1;have hp:p ∈ ps:=List.mem_iff_getElem?.mpr ⟨a,e1⟩;have it:∀{o:az},aC (.d (.list (ps.map pr))) (.d (.int (a:Int))) o= .ok (.d (pr p)) o:=λ{o}=>uF hl' (by rw[gB,e1];rfl)
   by_cases hw:p.1=w
   ·have ef:oE ps w=p.2:=by
     unfold oE;cases hf:ps.find? (λp=>p.1==w)with
     |none=>exact absurd (Ar.mp hf p hp) (by rw[hw];simp)
     |some q=>
      have h1:=(pin q (List.mem_of_find?_eq_some hf) (eq_of_beq (List.find?_some (p:=λp:NP=>p.1==w) hf))).2;rw[e1]at h1;cases h1;rfl
    rw[ef];exact mj (oM (aQ rfl (au (aj rfl rfl) ld) (W8 (cM ha)) rfl) (oM (aQ (aN (aN rfl rfl it) rfl rfl) rfl (show gi (.d (.bytes p.1)) (.d (.bytes w)) _= .ok (.d (.bool true)) _ from by rw[hw];exact congrArg (λb=>aR.ok (V.d (.bool b)) _) (cM rfl)) rfl) rfl)) (aN (aN rfl rfl it) rfl rfl)
   ·have ef:oE ps w= .none:=by
     unfold oE;rw[Ar.mpr λq hq h=>hw (by have h1:=(pin q hq (eq_of_beq h)).2;rw[e1]at h1;cases h1;exact eq_of_beq h)];rfl
    rw[ef];exact lu (oM (aQ rfl (au (aj rfl rfl) ld) (W8 (cM ha)) rfl) (q8 (aQ (aN (aN rfl rfl it) rfl rfl) rfl (Uv hw) rfl))) rfl
  ·have ef:oE ps w= .none:=by
    unfold oE;rw[Ar.mpr λq hq h=>ha (pin q hq (eq_of_beq h)).1];rfl
   rw[ef];exact lu (q8 (aQ rfl (au (aj rfl rfl) ld) (W8 (fM ha)) rfl)) rfl
 exact dH rfl (fE (aA (asg rfl) (bG (mw (oh (r:=(0,41,1)) (aj (aN rfl rfl rfl) rfl) rfl rfl) (CT rfl (aA (asg (au (aj rfl (aj rfl rfl)) (bu (ZQ (n:=n+3) (k:=0) (.here λZ=>rfl) (by decide)) rfl rfl rfl rfl rfl))) (bG (ly (aQ rfl rfl Sz rfl) (aA (asg (au (aj rfl (aj rfl (aj rfl rfl))) (bu (ZP (n:=n+1) hl) rfl rfl rfl rfl rfl))) (aA (asg (au (aj cm (aj rfl rfl)) (cC e rfl rfl rfl rfl))) (bG (bZ iP))))))))))) rfl)
end
section
variable{α β:Type}{o o1 o2 o3:az}{loc iW:bL}{v v1 v2 a b:V}{i:Nat}{x:Ex}{vs:List V}{R RV:aR V}{RF:aR Fo}{f g e:DE}{fs:ug}{A B:DS}{gg:List V->az->aR V}
theorem Iw{r:aR α}(h:r= .exc x o):r.bind k= .exc x o:=by rw[h];rfl
theorem Yn(h:f loc o= .exc x o1):ay i f loc o= .exc x o1:=Iw h
theorem Yh(h:f loc o= .exc x o1):aa f fs loc o= .exc x o1:=Iw h
theorem UA(h:f loc o= .ok v o1)(h2:fs loc o1= .exc x o2):aa f fs loc o= .exc x o2:=gj h (Iw h2)
theorem UJ(h:fs loc o= .exc x o1):aq gg fs loc o= .exc x o1:=Iw h
theorem abV(h:f loc o= .exc x o1):cU f loc o= .exc x o1:=Iw h
theorem DN(h:A loc o= .ok (.next iW) o1)(h2:B iW o1= .exc x o2):ao A B loc o= .exc x o2:=gj h h2
theorem Lj(h:A ((args++fW.map V.d).map some++List.replicate (n - k) none) o= .exc x o1)(hk:decide (args.length+fW.length=k)=true)(h2:o1.take o.length=o2):bI k n fW A keep args o= .exc x o2:=by
 unfold bI;rw[hk,h, <-h2]
 rfl
theorem mG{id n:Nat}(h:fn id (run n) dR o₀=r)(uH:Nat.blt id 73=true)(hp:l8 o (idxOf args)=some o₀)(ha:args.map (V.Ag ((idxOf args).idxOf ·))=dR)(hf:o.all aH.aY=true)(hr:rF o (idxOf args) r=R):run (n+1) id args o=R:=by
 rw[FH uH,SN h hp ha hf,hr]
end
noncomputable abbrev nn:List UInt8:=[110,111,110,101]
structure IJ(T:List (aG×D))(tr:Option D)(ps:List NP):Prop where
 no:tr=none->ps=[]
 ft:∀t,tr=some t->∃e,q_ T 1 t (.dict .ks e)
 tp:∀t,tr=some t->∀n,fn 29 (run (n+8)) [sh, .d t, .d (.str "Names")] (O4 T R0)= .ok (.d (.list (ps.map pr))) (O4 T R0)
 tf:∀t,tr=some t->∀w,(w=nn\/w ∈ ps.map (λZ=>Z.1))->∀n,fn 32 (run (n+8)) [sh, .d t, .d (.str "Names"), .d (.bytes w)] (O4 T R0)= .ok (.d (oE ps w)) (O4 T R0)
 sz:ps.length<=30
theorem E_(nd:(ps.map (λZ=>Z.1)).Nodup)(so:ps.Pairwise λa b=>cP.blt b.1 a.1=false)(hl:ps.length<=30):IJ T (some (fu ps)) ps:=
 ⟨(λh=>nomatch h),λt h=>by cases h;exact⟨_, .here λZ=>rfl⟩,λt h n=>by cases h;exact f29 (n:=n+4) (cS hl (by decide)),λt h w Z n=>by cases h;exact f32 (n:=n+3) so nd (cS hl (by decide)),hl⟩
section
variable{n k m:Nat}{l:List D}{o os:az}{d v x y:D}{ps:List NP}{p:NP}{T R e:List (aG×D)}{w:List UInt8}{i:Int}{tr:Option D}{wy:lT}{g:NP->D}
theorem gE(H:Hm T wy tr):pF [.d (.dict .ks (Nl wy.ds tr)), .d (.str "EmbeddedFiles")] o= .ok (.d (tr.getD .none)) o:=congrArg (λd=>aR.ok (V.d d) o) Qh
theorem V6(H:Hm T wy tr)(t:IJ T tr ps):fn 39 (run (n+9)) [sh] (O4 T R0)= .ok (.d (.list (ps.map pr))) (O4 T R0):=by
 have g0:∀{tl:bL},aO oZ pF (aq (run (n+9) 38) (aa (af 0) ak)) (aa (ai (.str "EmbeddedFiles")) ak) (some sh::tl) (O4 T R0)= .ok (.d (tr.getD .none)) (O4 T R0):=λ{tl}=>aL (au (aj rfl rfl) (bu (V7 (n:=n+5) H) rfl rfl rfl rfl rfl)) rfl (aj rfl rfl) (gE H);cases tr with
 |none=>
  rw[t.no rfl];exact dH rfl (fE (aA (asg g0) (bG (bZ (mj (aQ (aL rfl rfl (aj rfl rfl) (Ao (k:=0) (.here λZ=>rfl) (by decide))) rfl rfl rfl) (kF rfl rfl rfl))))) rfl)
 |some d=>
  obtain⟨e,he⟩:=t.ft _ rfl;exact dH rfl (fE (aA (asg g0) (bG (bZ (lu (aQ (aL rfl rfl (aj rfl rfl) (Ao he (by decide))) rfl rfl rfl) (au (aj rfl (aj rfl (aj rfl rfl))) (bu (t.tp _ rfl n) rfl rfl rfl rfl rfl)))))) rfl)
theorem f40(H:Hm T wy tr)(t:IJ T tr ps)(hg:∀p ∈ ps,q_ T 1 p.2 (g p)):fn 40 (run (n+10)) [sh] (O4 T R0)= .ok (.d (.list (ps.map λp=> .tup [.bytes p.1,g p]))) (O4 T R0):=by
 have c:=fQ (out:=bh) (pn:=none) (o:=O4 T R0) (mk:=λq:NP=>V.d (pr q)) (nx:=λq=>(some (V.d (.bytes q.1)),some (V.d q.2))) (Lo:=λy:Option V×Option V=>some sh::none::y.1::y.2::List.replicate 9 none) (bd:=jE [2,3]) (e:=cB (aa (af 2) (aa (aO aI (run (n+10) 64) (af 0) (aa (af 3) ak)) ak))) (f:=λq=> .tup [.bytes q.1,g q]) (l:=ps) (y:=(none,none)) rfl (λx y=>rfl) (λq hq=>eH (aj rfl (aj (aL rfl rfl (aj rfl rfl) (Ao (n:=n+9) (hg q hq) (by decide))) rfl)) rfl rfl) (eG t.sz (by decide));exact dH rfl (fE (bG (bZ (i6 (jB (au (aj rfl rfl) (bu (V6 (n:=n) H t) rfl rfl rfl rfl rfl)) (congrArg some (dB (f:=pr) (g:=V.d) (l:=ps)))) c))) rfl)
theorem Ue(nd:(ps.map (λZ=>Z.1)).Nodup)(hp:p ∈ ps):oE ps p.1=p.2:=by
 unfold oE;cases hf:ps.find? (λq=>q.1==p.1)with
 |none=>exact absurd (Ar.mp hf p hp) (by simp)
 |some q=>
  have h1:=eq_of_beq (List.find?_some (p:=λq:NP=>q.1==p.1) hf);obtain⟨a,ha⟩:=List.mem_iff_getElem?.mp hp;obtain⟨b,hb⟩:=List.mem_iff_getElem?.mp (List.mem_of_find?_eq_some hf);have ne:∀{a b:Nat}{x y:NP},ps[a]? =some x->ps[b]? =some y->x.1=y.1->¬a < b:=λ{a b x y} ha hb he h=>by
   have ha1:=nc.mp ha;have hb1:=nc.mp hb;have:=(Dw.mp nd) a b (by rw[cO];exact ha1.1) (by rw[cO];exact hb1.1) h;rw[List.getElem_map,List.getElem_map,ha1.2,hb1.2]at this;exact this he
  have:a=b:=Nat.le_antisymm (pX.mp (ne hb ha h1)) (pX.mp (ne ha hb h1.symm));subst this;rw[ha]at hb;cases hb;rfl
theorem PV(h:w ∉ ps.map (λZ=>Z.1)):oE ps w= .none:=by
 unfold oE;rw[Ar.mpr λq hq e=>h (cX.mpr ⟨q,hq,eq_of_beq e⟩)];rfl
theorem f41(H:Hm T wy tr)(t:IJ T tr ps)(nd:(ps.map (λZ=>Z.1)).Nodup)(hp:p ∈ ps)(hg:q_ T 1 p.2 (.dict .ks e)):fn 41 (run (n+9)) [sh, .d (.bytes p.1)] (O4 T R0)= .ok (.d (.dict .ks e)) (O4 T R0):=by
 cases tr with
 |none=>rw[t.no rfl]at hp;cases hp
 |some d=>
  obtain⟨e',he⟩:=t.ft _ rfl;have g:=t.tf _ rfl p.1 (.inr (cX.mpr ⟨p,hp,rfl⟩)) n;rw[Ue nd hp]at g;exact dH rfl (fE (aA (asg (aL (au (aj rfl rfl) (bu (V7 (n:=n+5) H) rfl rfl rfl rfl rfl)) rfl (aj rfl rfl) (gE H))) (aA (asg (lu (aQ (aL rfl rfl (aj rfl rfl) (Ao he (by decide))) rfl rfl rfl) (aL rfl rfl (aj (au (aj rfl (aj rfl (aj rfl (aj rfl rfl)))) (bu g rfl rfl rfl rfl rfl)) rfl) (Ao hg (by decide))))) (aA (ez (wJ (eO (gV rfl rfl) rfl)) rfl) (bG (bZ rfl))))) rfl)
theorem X6(H:Hm T wy tr)(t:IJ T tr ps)(h:nn ∉ ps.map (λZ=>Z.1)):fn 41 (run (n+9)) [sh, .d (.bytes nn)] (O4 T R0)= .exc .tree (O4 T R0):=by
 have g0:∀{tl:bL},aO oZ pF (aq (run (n+9) 38) (aa (af 0) ak)) (aa (ai (.str "EmbeddedFiles")) ak) (some sh::tl) (O4 T R0)= .ok (.d (tr.getD .none)) (O4 T R0):=λ{tl}=>aL (au (aj rfl rfl) (bu (V7 (n:=n+5) H) rfl rfl rfl rfl rfl)) rfl (aj rfl rfl) (gE H);cases tr with
 |none=>exact dH rfl (Lj (DN (asg g0) (DN (asg (mj (aQ (aL rfl rfl (aj rfl rfl) (Ao (k:=0) (.here λZ=>rfl) (by decide))) rfl rfl rfl) rfl)) (AM (ly (Gu (eO (gV rfl rfl) rfl)) (AM rfl))))) rfl rfl)
 |some d=>
  obtain⟨e',he⟩:=t.ft _ rfl;have g:=t.tf _ rfl nn (.inl rfl) n;rw[PV h]at g;exact dH rfl (Lj (DN (asg g0) (DN (asg (lu (aQ (aL rfl rfl (aj rfl rfl) (Ao he (by decide))) rfl rfl rfl) (aL rfl rfl (aj (au (aj rfl (aj rfl (aj rfl (aj rfl rfl)))) (bu g rfl rfl rfl rfl rfl)) rfl) (Ao (k:=0) (.here λZ=>rfl) (by decide))))) (AM (ly (Gu (eO (gV rfl rfl) rfl)) (AM rfl))))) rfl rfl)
end
noncomputable abbrev rZ(hd:List (aG×D))(w:List UInt8):D:= .inst .stream [.dict .ks hd, .bytes w]
noncomputable abbrev ln(w:List UInt8):D:= .int (w.length:Int)
noncomputable abbrev R4(w dg:List UInt8):D:= .dict .ks [kv "Size" (ln w),kv "CheckSum" (.inst .string [.bytes dg, .bool true])]
noncomputable def uf(w dg:List UInt8):Bool->List (aG×D)
 |false=>[kv "Length" (ln w)]
 |true=>[kv "Length" (ln w),kv "Type" (wL "EmbeddedFile"),kv "Params" (R4 w dg)]
noncomputable def NC(t:Int):Bool->List (aG×D)
 |false=>[kv "F" (rf t 0)]
 |true=>[kv "F" (rf t 0),kv "UF" (rf t 0)]
noncomputable def xU(nm:List UInt8)(t:Int):Bool->List (aG×D)
 |false=>[kv "Type" (wL "Filespec"),kv "F" (e8 nm),kv "EF" (.dict .ks (NC t false))]
 |true=>[kv "Type" (wL "Filespec"),kv "F" (e8 nm),kv "UF" (e8 nm),kv "EF" (.dict .ks (NC t true))]
noncomputable def Dg(w dg:List UInt8):Prop:=∀n,fn 21 (run (n+9)) [.d (.bytes w)] O2= .ok (.d (.bytes dg)) O2
theorem cfE(h:ff loc o= .ok v o1)(h2:XD v=some k)(h3:fs loc o1= .ok vs o2)(h4:g k vs o2=R):xB ff g fs loc o=R:=gj h (by rw[h2];exact gj h3 h4)
section
variable{n k m:Nat}{l:List D}{o os:az}{d v x y:D}{ps:List NP}{p:NP}{T R e:List (aG×D)}{w dg nm:List UInt8}{t i:Int}{tr:Option D}{wy:lT}{b:Bool}
theorem KS(hl:w.length < 1000000):dj (.d (.bytes w)) o= .ok (.d (ln w)) o:=by
 show bz (c6 w.length) _=_;rw[bR hl];rfl
theorem f42(h:q_ T 1 (rf t 0) (rZ e w)):fn 42 (run (n+2)) [sh, .d (.dict .ks (xU nm t b))] (O4 T R)= .ok (.d (rZ e w)) (O4 T R):=by
 have h1:(aJ (xU nm t b) (.str "EF")).getD .none= .dict .ks (NC t b):=by cases b<;>kernel_rfl
 have h2:(aJ (NC t b) (.str "F")).getD .none=rf t 0:=by cases b<;>kernel_rfl
 exact dH rfl (fE (aA (asg (aL rfl rfl (aj rfl (aj rfl rfl)) (bu (HU (n:=n) (k:=0) rfl h1 (.here λZ=>rfl) (by decide)) rfl rfl rfl rfl rfl))) (aA (ez (wJ (eO (gV rfl rfl) rfl)) rfl) (bG (mw (jB (eH (aj rfl (aj rfl rfl)) rfl rfl) rfl) (CT rfl (aA (asg (aL rfl rfl (aj rfl (aj rfl rfl)) (bu (HU (n:=n) rfl h2 h (by decide)) rfl rfl rfl rfl rfl))) (bG (ly (eO (gV rfl rfl) rfl) (bG (bZ rfl)))))))))) rfl)
theorem k0i:fn 0 (run n) [.d (.int i)] O2= .ok (.d (.str "int")) O2:=by kernel_rfl
theorem k0s:fn 0 (run n) [.d (.inst .string [.bytes w, .bool b])] O2= .ok (.d (.str "string")) O2:=by kernel_rfl
theorem WZ:gA (.d (.bytes w)) (.d (.bytes w)) o= .ok (.d (.bool false)) o:=by
 show bx (some (decide (w=w))) _=_;rw[cM rfl];rfl
theorem Rj:gA (.d (.str s)) (.d (.str s)) o= .ok (.d (.bool false)) o:=by
 show bx (some (decide (s=s))) _=_;rw[cM rfl];rfl
theorem f43(hl:w.length < 1000000)(hd:Dg w dg):fn 43 (run (n+10)) [sh, .d (rZ (uf w dg b) w), .d (.bytes w)] (O4 T R)= .ok (.d (.str "")) (O4 T R):=by
 cases b with
 |false=>exact dH rfl (fE (aA (asg (aL rfl rfl (aj (di rfl rfl) (aj rfl rfl)) (bu (HU (n:=n+8) (k:=0) (v:= .none) rfl (by kernel_rfl) (.here λZ=>rfl) (by decide)) rfl rfl rfl rfl rfl))) (bG (ly (Gu (eO (gV rfl rfl) rfl)) (bG (bZ rfl))))) rfl)
 |true=>
  exact dH rfl (fE (aA (asg (aL rfl rfl (aj (di rfl rfl) (aj rfl rfl)) (bu (HU (n:=n+8) (k:=0) (v:=R4 w dg) rfl (by kernel_rfl) (.here λZ=>rfl) (by decide)) rfl rfl rfl rfl rfl))) (aA (ez (wJ (eO (gV rfl rfl) rfl)) rfl)
   (aA (asg (aL rfl rfl (aj rfl (aj rfl rfl)) (bu (HU (n:=n+8) (k:=0) (v:=ln w) rfl (by kernel_rfl) (.here λZ=>rfl) (by decide)) rfl rfl rfl rfl rfl)))
   (aA (ez (oM (aQ rfl rfl rfl rfl) (q8 (wG (aQ (au (aj rfl rfl) (cC k0i rfl rfl rfl rfl)) rfl Rj rfl) (wG (aQ rfl (au (aj rfl rfl) (KS hl)) Zc rfl) rfl)))) rfl)
   (aA (asg (aL rfl rfl (aj rfl (aj rfl rfl)) (bu (HU (n:=n+8) (k:=0) (v:= .inst .string [.bytes dg, .bool true]) rfl (by kernel_rfl) (.here λZ=>rfl) (by decide)) rfl rfl rfl rfl rfl)))
   (aA (ez (oM (aQ rfl rfl rfl rfl) (q8 (wG (aQ (au (aj rfl rfl) (cC k0s rfl rfl rfl rfl)) rfl Rj rfl) (wG (aQ (di rfl rfl) (au (aj rfl rfl) (cC (hd n) rfl rfl rfl rfl)) WZ rfl) rfl)))) rfl)
   (bG (bZ rfl)))))))) rfl)
theorem f57:fn 57 (run n) [sh, .d (rZ e w)] (O4 T R)= .ok (.d (.bytes w)) (O4 T R):=by kernel_rfl
theorem f44(H:Hm T wy tr)(z:IJ T tr ps)(nd:(ps.map (λZ=>Z.1)).Nodup)(hp:p ∈ ps)(h1:q_ T 1 p.2 (.dict .ks (xU nm t b)))(h2:q_ T 1 (rf t 0) (rZ (uf w dg b) w))(hl:w.length < 1000000)(hd:Dg w dg):
  fn 44 (run (n+11)) [sh, .d (.bytes p.1), .d (.fn 0)] (O4 T R0)= .ok (.d (.bytes w)) (O4 T R0):=
 dH rfl (fE (aA (asg (au (aj rfl (aj (au (aj rfl (aj rfl rfl)) (cL (os:=[]) (f41 (n:=n+1) H z nd hp h1) rfl rfl rfl rfl)) rfl)) (cL (os:=[]) (f42 (n:=n+8) h2) rfl rfl rfl rfl))) (aA (ez (aQ rfl rfl rfl rfl) rfl) (aA (asg (cfE rfl rfl (aj rfl (aj rfl rfl)) (cL (os:=[]) (f57 (n:=n+10)) rfl rfl rfl rfl)))
  (aA (asg (au (aj rfl (aj rfl (aj rfl rfl))) (cL (os:=[]) (f43 (n:=n) hl hd) rfl rfl rfl rfl))) (aA (ez (aQ rfl rfl Rj rfl) rfl) (bG (bZ rfl))))))) rfl)
theorem X0(H:Hm T wy tr)(z:IJ T tr ps)(h:nn ∉ ps.map (λZ=>Z.1)):fn 44 (run (n+10)) [sh, .d (.bytes nn), .d (.fn 0)] (O4 T R0)= .exc .tree (O4 T R0):=
 dH rfl (Lj (AM (Yn (UJ (UA rfl (Yh (au (aj rfl (aj rfl rfl)) (mG (X6 (n:=n) H z h) rfl rfl rfl rfl rfl))))))) rfl rfl)
theorem f50(hl:w.length < 1000000)(hd:Dg w dg):fn 50 (run (n+10)) [.d (.bytes w), .d (rZ (uf w dg false) w)] O2= .ok (.d (rZ (uf w dg true) w)) O2:=by
 have e1:∀k,fn 46 (run k) [.d (.dict .ks (uf w dg false)), .d (.str "Type"), .d (wL "EmbeddedFile")] O2= .ok (.d (.dict .ks [kv "Length" (ln w),kv "Type" (wL "EmbeddedFile")])) O2:=λk=>by kernel_rfl
 have e2:∀k,fn 46 (run k) [.d (.dict .ks [kv "Length" (ln w),kv "Type" (wL "EmbeddedFile")]), .d (.str "Params"), .d (R4 w dg)] O2= .ok (.d (.dict .ks (uf w dg true))) O2:=λk=>by kernel_rfl
 exact dH rfl (fE (aA (asg (Bw (sy rfl (au (aj rfl rfl) (KS hl)) (sy rfl (au (aj (au (aj rfl rfl) (cC (hd n) rfl rfl rfl rfl)) (aj rfl rfl)) rfl) rfl)) rfl rfl rfl)) (bG (bZ (au (aj (au (aj (au (aj (di rfl rfl) (aj rfl (aj (au (aj rfl rfl) rfl) rfl))) (cC (e1 _) rfl rfl rfl rfl)) (aj rfl (aj rfl rfl))) (cC (e2 _) rfl rfl rfl rfl)) (aj (di rfl rfl) rfl)) rfl)))) rfl)
theorem f51:fn 51 (run n) [.d (.bytes nm), .d (rf t 0)] O2= .ok (.d (.dict .ks (xU nm t true))) O2:=by kernel_rfl
end
theorem cT{y:aG}:aJ (p::l) y=if p.1=y then some p.2 else aJ l y:=by
 show(match decide (p.1=y)with |true=>some p |false=>l.find? _).map _=_
 by_cases h:p.1=y
 ·rw[cM h,bw h];rfl
 ·rw[fM h,aZ h];rfl
theorem pD{y:aG}:aJ (l++m) y=(aJ l y).or (aJ m y):=by
 induction l with
 |nil=>rfl
 |cons p l ih=>
  rw[List.cons_append,cT,cT,ih];split<;>rfl
theorem ia{x y:aG}{v:D}:aJ (b_ l x v) y=if x=y then some v else aJ l y:=by
 have km:∀l:List (aG×D),aJ (l.map (kH x v)) y=if x=y then(aJ l y).map λZ=>v else aJ l y:=λl=>by
  induction l with
  |nil=>split<;>rfl
  |cons p l ih=>
   rw[qY,cT,cT,ih,yY]
   by_cases h:p.1=y
   ·rw[bw h,bw h]
    by_cases h2:x=y
    ·rw[bw h2];unfold kH;rw[if_pos (h.trans h2.symm)];rfl
    ·rw[aZ h2];unfold kH;rw[if_neg λq=>h2 (q.symm.trans h)]
   ·rw[aZ h,aZ h]
 unfold b_
 by_cases hs:(aJ l x).isSome=true
 ·rw[bw hs,km]
  by_cases h:x=y
  ·subst h;obtain⟨d,hd⟩:=kq.mp hs;rw[bw rfl,bw rfl,hd];rfl
  ·rw[aZ h,aZ h]
 ·rw[aZ hs,pD,cT]
  by_cases h:x=y
  ·subst h;rw[bw rfl,bw rfl,Option.not_isSome_iff_eq_none.mp hs];rfl
  ·rw[aZ h,aZ h];exact Option.or_none
theorem vA{x y:aG}:aJ (Bf l x) y=if x=y then none else aJ l y:=by
 induction l with
 |nil=>split<;>rfl
 |cons p l ih=>
  unfold Bf at *;rw[List.filter_cons]
  by_cases h:p.1=x
  ·rw[aZ (by rw[fM (not_not_intro h)];decide),ih,cT]
   by_cases h2:x=y
   ·rw[bw h2,bw h2]
   ·rw[aZ h2,aZ h2,aZ λq=>h2 (h.symm.trans q)]
  ·rw[bw (cM h),cT,cT,ih]
   by_cases h2:p.1=y
   ·rw[bw h2,aZ λq=>h (h2.trans q.symm),bw h2]
   ·rw[aZ h2,aZ h2]
theorem G0{v:D}{y:aG}:∀{l:List (aG×D)},(∀p ∈ l,p.1≠y)->aJ l y=none
 | [],_=>rfl
 |p::l,h=>by rw[cT,aZ (h p (.head _))];exact G0 (v:=v) λq hq=>h q (.tail _ hq)
noncomputable abbrev bK(p:NP):aG×D:=(.bytes p.1,p.2)
theorem qh:∀(ps qs:List NP),((qs++ps).map (λZ=>Z.1)).Nodup->fP (.dict .kb (qs.map bK)) (ps.map pr)=some (.dict .kb ((qs++ps).map bK))
 | [],qs,_=>by rw[fC];rfl
 |p::ps,qs,nd=>by
  have e:b_ (qs.map bK) (.bytes p.1) p.2=(qs++[p]).map bK:=by
   unfold b_;rw[aZ,fZ];rfl;rw[G0 (v:=p.2)];decide;intro z hz q;obtain⟨r,hr,rfl⟩:=mM hz;rw[fZ]at nd;exact(nk.mp nd).2.2 r.1 (cX.mpr ⟨r,hr,rfl⟩) p.1 (.head _) (aG.bytes.inj q)
  have:=qh ps (qs++[p]) (by rw[jA];exact nd);rw[jA]at this;show fP (.dict .kb (b_ (qs.map bK) (.bytes p.1) p.2)) (ps.map pr)=_;rw[e];exact this
noncomputable def VF:List NP->Option D
 | []=>none
 |p::ps=>some (fu (lF (p::ps)))
noncomputable def Mv:lT->lT
 | .no=> .inl false
 |w=>w
noncomputable def A5(w:lT)(ps:List NP):D:= .dict .ks (Nl w.ds (VF ps))
noncomputable def qt(T:List (aG×D))(w:lT)(ps:List NP):List (aG×D):=match w with
 | .one=>b_ T (.int 60) (fK 0 (A5 w ps))
 | .two=>b_ T (.int 61) (fK 0 (A5 w ps))
 |_=>b_ T (.int 70) (fK 2 (.dict .ks (w_ (A5 w ps))))
section
variable{n k m:Nat}{l:List D}{o os:az}{d v x y:D}{ps:List NP}{p:NP}{T R e:List (aG×D)}{w dg nm:List UInt8}{t i:Int}{tr:Option D}{wy:lT}{b:Bool}
theorem f48(ht:c6 T.length=true)(H:Hm T wy tr)(nd:(ps.map (λZ=>Z.1)).Nodup)(hl:ps.length<=30):fn 48 (run (n+9)) [sh, .d (.list (ps.map pr))] (O4 T R0)= .ok (.d .none) (O4 (qt T wy ps) R0):=by
 have hl':(ps.map pr).length < 1000000:=by rw[cO];exact eG hl (by decide)
 have V0:∀{tl:bL},aq (run (n+9) 47) (aa (af 0) ak) (some sh::tl) (O4 T R0)= .ok (.d (rf 70 2)) (O4 T R0):=λ{tl}=>au (aj rfl rfl) (cL (os:=[]) (ZO (n:=n+5) H) rfl rfl rfl rfl);have fd:gw false (.dict .kb []) (.d (.list (ps.map pr))) (O4 T R0)= .ok (.d (.dict .kb (ps.map bK))) (O4 T R0):=by
  show bz (true&&c6 (ps.map pr).length) (bx (fP (.dict .kb []) (ps.map pr)) λx=>wN false x _)=_;rw[bR hl',show fP (.dict .kb []) (ps.map pr)=some (.dict .kb (ps.map bK))from qh ps [] nd];rfl
 have VK:a_ [7,8,9] (qB (aq (bB (gw false (.dict .kb []))) (aa (af 1) ak))) (jE [8,9]) bN (gu (cB (aa (af 8) (aa (af 9) ak)))) [] bh (some sh::some (.d (.list (ps.map pr)))::some (.d (rf 70 2))::List.replicate 16 none) (O4 T R0)= .ok (.d (.list (ps.map pr))) (O4 T R0):=by
  have c:=fQ (out:=bh) (pn:=none) (o:=O4 T R0) (mk:=λq:NP=>V.d (pr q)) (nx:=λq=>(some (V.d (.bytes q.1)),some (V.d q.2))) (Lo:=λy:Option V×Option V=>some sh::some (.d (.list (ps.map pr)))::some (.d (rf 70 2))::none::none::none::none::none::y.1::y.2::List.replicate 9 none) (bd:=jE [8,9]) (e:=cB (aa (af 8) (aa (af 9) ak))) (f:=pr) (l:=ps) (y:=(none,none)) rfl (λx y=>rfl) (λq hq=>eH (aj rfl (aj rfl rfl)) rfl rfl) (eG hl (by decide));refine i6 ?_ c;refine gj (au (aj rfl rfl) fd) ?_;show aR.ok (rz (ps.map bK),none) _=_;unfold rz;rw[dB];rfl
 have Yk:∀{tl:bL},aq (run (n+9) 38) (aa (af 0) ak) (some sh::tl) (O4 T R0)= .ok (.d (.dict .ks (Nl wy.ds tr))) (O4 T R0):=λ{tl}=>au (aj rfl rfl) (cL (os:=[]) (V7 (n:=n+5) H) rfl rfl rfl rfl);have nms:aq (run (n+9) 46) (aa (aq (run (n+9) 38) (aa (af 0) ak)) (aa (ai (.str "EmbeddedFiles")) (aa (eW (aE gA (af 3) (d8 false ak)) (aq (run (n+9) 37) (aa (af 3) (aa (ai (.str "Names")) (aa (ai (.int 32)) ak)))) (ai (.none))) ak))) (some sh::some (.d (.list (ps.map pr)))::some (.d (rf 70 2))::some (.d (.list (ps.map pr)))::List.replicate 15 none) (O4 T R0)= .ok (.d (A5 wy ps)) (O4 T R0):=by
  cases ps with
  |nil=>exact au (aj Yk (aj rfl (aj (lu (aQ rfl (kF rfl rfl rfl) rfl rfl) rfl) rfl))) (cC Wn rfl rfl rfl rfl)
  |cons p r=>exact au (aj Yk (aj rfl (aj (mj (aQ rfl (kF rfl rfl rfl) rfl rfl) (au (aj rfl (aj rfl (aj rfl rfl))) (cC (f37 (n:=n+6) (ps:=p::r) (λh=>nomatch h) (cS hl (by decide)) nd) rfl rfl rfl rfl))) rfl))) (cC wkN rfl rfl rfl rfl)
 have VS:aO oZ pF (aO aI (run (n+9) 70) (af 0) ak) (aa (ai (.str "Names")) ak) (some sh::some (.d (.list (ps.map pr)))::some (.d (rf 70 2))::some (.d (.list (ps.map pr)))::some (.d (A5 wy ps))::List.replicate 14 none) (O4 T R0)= .ok (.d (Ri wy tr)) (O4 T R0):=aL (aL rfl rfl rfl (H.JC (n:=n+6))) rfl (aj rfl rfl) (congrArg (λd=>aR.ok (V.d d) (O4 T R0)) sJ);have els:∀{pl:Option V},ao (cU (aO aI (run (n+9) 66) (af 0) (aa (bq "number" (af 2)) (aa (bq "generation" (af 2)) (aa (aq (run (n+9) 46) (aa (aO aI (run (n+9) 70) (af 0) ak) (aa (ai (.str "Names")) (aa (af 4) ak)))) ak))))) av (some sh::some (.d (.list (ps.map pr)))::some (.d (rf 70 2))::some (.d (.list (ps.map pr)))::some (.d (A5 wy ps))::pl::List.replicate 13 none) (O4 T R0)= .ok (.next (some sh::some (.d (.list (ps.map pr)))::some (.d (rf 70 2))::some (.d (.list (ps.map pr)))::some (.d (A5 wy ps))::pl::List.replicate 13 none)) (O4 (b_ T (.int 70) (fK 2 (.dict .ks (w_ (A5 wy ps))))) R0):=λ{pl}=>
  aA (iX (aL rfl rfl (aj (di rfl rfl) (aj (di rfl rfl) (aj (au (aj (aL rfl rfl rfl (H.JC (n:=n+6))) (aj rfl (aj rfl rfl))) (cC wkH rfl rfl rfl rfl)) rfl))) (cL (os:=[]) (Um ht) rfl rfl rfl rfl))) rfl
 clear Yk;cases wy with
 |inl ds=>exact dH rfl (xh (aA (asg V0) (aA (asg VK) (aA (asg nms) (aA (asg VS) (aA (ez (oM (eO (gV (aL rfl rfl (aj rfl rfl) (Ao (k:=0) (.here λZ=>rfl) (by decide))) rfl) rfl) (q8 (eO (gV rfl rfl) rfl))) els) rfl))))) rfl rfl)
 |no=>exact dH rfl (xh (aA (asg V0) (aA (asg VK) (aA (asg nms) (aA (asg VS) (aA (ez (q8 (eO (gV (aL rfl rfl (aj rfl rfl) (Ao (k:=0) (.here λZ=>rfl) (by decide))) rfl) rfl)) els) rfl))))) rfl rfl)
 |one=>
  have nr:NR (.dict .ks (Nl true tr)):=λZ=>rfl;exact dH rfl (xh (aA (asg V0) (aA (asg VK) (aA (asg nms) (aA (asg VS) (aA (ly (oM (eO (gV (aL rfl rfl (aj rfl rfl) (Ao (k:=1) (.go (H.n1 rfl) (.here nr)) (by decide))) rfl) rfl) (oM (eO (gV rfl rfl) rfl) rfl)) (aA (asg (au (aj rfl (aj rfl rfl)) (cL (os:=[]) (XZ (k:=0) (.here (H.n1 rfl) nr) (by decide)) rfl rfl rfl rfl))) (aA (iX (aL rfl rfl (aj (di rfl rfl) (aj (di rfl rfl) (aj rfl rfl))) (cL (os:=[]) (Um ht) rfl rfl rfl rfl))) rfl))) rfl))))) rfl rfl)
 |two=>
  have nr:NR (.dict .ks (Nl true tr)):=λZ=>rfl;exact dH rfl (xh (aA (asg V0) (aA (asg VK) (aA (asg nms) (aA (asg VS) (aA (ly (oM (eO (gV (aL rfl rfl (aj rfl rfl) (Ao (k:=2) (.go (H.n2 rfl).1 (.go (H.n2 rfl).2 (.here nr))) (by decide))) rfl) rfl) (oM (eO (gV rfl rfl) rfl) rfl)) (aA (asg (au (aj rfl (aj rfl rfl)) (cL (os:=[]) (XZ (k:=1) (.go (H.n2 rfl).1 (.here (H.n2 rfl).2 nr)) (by decide)) rfl rfl rfl rfl))) (aA (iX (aL rfl rfl (aj (di rfl rfl) (aj (di rfl rfl) (aj rfl rfl))) (cL (os:=[]) (Um ht) rfl rfl rfl rfl))) rfl))) rfl))))) rfl rfl)
end
structure QI(T:List (aG×D))(d_:Int->List (Int×Int))(E:List (Int×Int)):Prop where
 rt:RT T d_
 th:∀p ∈ E,jm T p=true
 bg:((70,2):Int×Int) ∈ E
 cl:∀p ∈ E,∀q ∈ d_ p.1,q ∈ E
 re:∀S:Int×Int->Prop,S (70,2)->(∀p ∈ E,S p->∀q ∈ d_ p.1,S q)->∀p ∈ E,S p
noncomputable abbrev Un(T:List (aG×D))(E:List (Int×Int))(i:Int):Prop:=(∃d,aJ T (.int i)=some d)/\∀p ∈ E,p.1≠i
section
variable{n k m:Nat}{l:List D}{o os:az}{d v x y:D}{T T1 R e:List (aG×D)}{i g:Int}{d_ RZ:Int->List (Int×Int)}{E E1:List (Int×Int)}{Q Q1:List Int}
theorem WT.set(W:WT T)(h:T.length < 59):WT (b_ T (.int i) (fK g d)):=⟨jt W.nd,eG iK (Nat.succ_lt_succ h),λp hp=>by
 unfold b_ at hp;split at hp
 ·obtain⟨q,hq,rfl⟩:=mM hp;unfold kH;split
  ·rename_i r;obtain⟨j,a,b,rfl⟩:=W.en q hq;exact⟨j,g,d,rfl⟩
  ·exact W.en q hq
 ·rcases gU.mp hp with h |h
  ·exact W.en p h
  ·cases dQ.mp h;exact⟨_,_,_,rfl⟩⟩
theorem WT.del(W:WT T):WT (Bf T (.int i)):=⟨W.nd.sublist (rL.map _),eG (List.length_filter_le ..) W.sz,λp hp=>W.en p (iE.mp hp).1⟩
inductive Ws(n:Nat)(T:List (aG×D))(E:List (Int×Int)):Prop
 |mk (Q:List Int) (_:fn 9 (run (n+7)) [sh] (O4 T R0)= .ok (.d (.list (Q.map .int))) (O4 T R0)) (_:Q.Nodup) (_:∀i,i ∈ Q↔Un T E i)
theorem Wt(W:WT T)(C:QI T d_ E):Ws n T E:=by
 obtain⟨F,Q,e,c,nq,h⟩:=f9 (n:=n) W C.rt;have F1:∀p ∈ F,p ∈ E:=c.mn (λZ=>Z ∈ E) (λp hp Z=>by cases dQ.mp hp;exact C.bg) λp hp q hq Z=>C.cl p hp q hq;have F2:∀p ∈ E,p ∈ F:=C.re (λZ=>Z ∈ F) (c.bg _ (.head _) (C.th _ C.bg)) λp hE hp q hq=>c.cl p hp q hq (C.th q (C.cl p hE q hq));exact⟨Q,e,nq,λi=>(h i).trans (and_congr Iff.rfl ⟨λh p hp=>h p (F2 p hp),λh p hp=>h p (F1 p hp)⟩)⟩
theorem Dc:∀{Q:List Int},tY (.int i) (Q.map .int)=some (decide (i ∈ Q))
 | []=>rfl
 |j::Q=>by
  show(some (decide (j=i))).bind (λa=>(tY (.int i) (Q.map .int)).map λb=>a||b)=_;rw[Dc];show some (decide (j=i)||decide (i ∈ Q))=_;rw[<-Bool.decide_or];exact congrArg some (vS.mpr ⟨λh=>h.elim (λh=>h▸ .head _) (.tail _),λh=>(cN.mp h).elim (λh=> .inl h.symm) .inr⟩)
theorem Ov{a1:Option V}{tl:bL}:∀{Q:List Int}{T:List (aG×D)}{y:Option V},WT T->Q.Nodup->(∀i ∈ Q,∃d,aJ T (.int i)=some d)->
  ∃T' y',jb none (aU 3) (MZ (run (n+1))) (Q.map λi=>V.d (.int i)) (some sh::a1::some (.d (.list (Q1.map .int)))::y::tl) (O4 T R)= .ok (.next (some sh::a1::some (.d (.list (Q1.map .int)))::y'::tl)) (O4 T' R)/\WT T'/\∀i,aJ T' (.int i)=if i ∈ Q/\i ∉ Q1 then none else aJ T (.int i)
 | [],T,y,W,_,_=>⟨T,y,rfl,W,λi=>by rw[aZ λh=>nomatch h.1]⟩
 |j::Q,T,y,W,nd,hs=>by
  obtain⟨n1,n2⟩:=fU.mp nd;have ni:∀{b:Bool},decide (j ∈ Q1)=b->dX (.d (.int j)) (.d (.list (Q1.map .int))) (O4 T R)= .ok (.d (.bool (!b))) (O4 T R):=λ{b} h=>by
   show bx (tY (.int j) (Q1.map .int)) _=_;rw[Dc,h];rfl
  by_cases q:j ∈ Q1
  ·refine cps λPP kk=> ?_;obtain⟨T',y',e,W',h⟩:=Ov (a1:=a1) (tl:=tl) (y:=some (.d (.int j))) W n2 λi hi=>hs i (.tail _ hi);refine kk ?_;clear kk;refine⟨T',y',fH rfl (aA (ez (aQ rfl rfl (ni (cM q)) rfl) rfl) rfl) e,W',λi=>(h i).trans ?_⟩
   by_cases c:i=j
   ·clear e ni nd;subst c;rw[aZ λh=>h.2 q,aZ λh=>h.2 q]
   ·refine ite_congr (propext (and_congr ⟨.tail _,λh=>(cN.mp h).elim (λh=>absurd h c) id⟩ Iff.rfl)) (λZ=>rfl) λZ=>rfl
  ·obtain⟨d,hd⟩:=hs j (.head _);obtain⟨T',y',e,W',h⟩:=Ov (a1:=a1) (tl:=tl) (y:=some (.d (.int j))) (W.del (i:=j)) n2 λi hi=>by
    rw[vA,aZ (show¬aG.int j=aG.int i from λh=>by cases h;exact n1 hi)];exact hs i (.tail _ hi)
   refine⟨T',y',fH rfl (aA (ly (aQ rfl rfl (ni (fM q)) rfl) (aA (iX (aL rfl rfl (aj rfl rfl) (cL (os:=[]) (f68 W.c6 hd) rfl rfl rfl rfl))) rfl)) rfl) e,W',λi=>(h i).trans ?_⟩;rw[vA]
   by_cases c:i=j
   ·clear hd W' e ni n2 hs nd W y' d y tl a1;subst c;rw[aZ λh=>n1 h.1,bw rfl,bw ⟨.head _,q⟩]
   ·rw[aZ (show¬aG.int j=aG.int i from λh=>by cases h;exact c rfl)];refine ite_congr (propext (and_congr ⟨.tail _,λh=>(cN.mp h).elim (λh=>absurd h c) id⟩ Iff.rfl)) (λZ=>rfl) λZ=>rfl
inductive XY(n:Nat)(T:List (aG×D))(E:List (Int×Int))(E1:List (Int×Int))(wy:lT)(ps:List NP):Prop
 |mk (T2) (_:fn 49 (run (n+10)) [sh, .d (.list (ps.map pr))] (O4 T R0)= .ok (.d .none) (O4 T2 R0)) (_:WT T2) (_:(∀i,Un (qt T wy ps) E1 i/\¬Un T E i->aJ T2 (.int i)=none)) (_:∀i,¬(Un (qt T wy ps) E1 i/\¬Un T E i)->aJ T2 (.int i)=aJ (qt T wy ps) (.int i))
theorem f49(W:WT T)(C:QI T d_ E)(H:Hm T wy tr)(nd:(ps.map (λZ=>Z.1)).Nodup)(hl:ps.length<=30)(W1:WT (qt T wy ps))(C1:QI (qt T wy ps) RZ E1):XY n T E E1 wy ps:=by
 obtain⟨Q1,e1,n1,h1⟩:=Wt (n:=n+2) W C;obtain⟨Q2,e2,n2,h2⟩:=Wt (n:=n+2) W1 C1;obtain⟨T2,y',e,W2,h⟩:=Ov (n:=n+9) (Q1:=Q1) (R:=R0) (a1:=some (.d (.list (ps.map pr)))) (tl:=List.replicate 12 none) (y:=none) W1 n2 λi hi=>((h2 i).mp hi).1;refine⟨T2,dH rfl (xh (aA (asg (au (aj rfl rfl) (cL (os:=[]) e1 rfl rfl rfl rfl))) (aA (iX (au (aj rfl (aj rfl rfl)) (cL (os:=[]) (f48 (n:=n) W.c6 H nd hl) rfl rfl rfl rfl))) (aA (mw (jB (au (aj rfl rfl) (cL (os:=[]) e2 rfl rfl rfl rfl)) (congrArg some (dB (f:=D.int) (g:=V.d) (l:=Q2)))) e) rfl))) rfl rfl),W2,λi hi=> ?_,λi hi=> ?_⟩
 ·rw[h,bw ⟨(h2 i).mpr hi.1,λq=>hi.2 ((h1 i).mp q)⟩]
 ·rw[h,aZ λq=>hi ⟨(h2 i).mp q.1,λr=>q.2 ((h1 i).mpr r)⟩]
end
structure eF where
 nm:List UInt8
 s:Int
 t:Int
 b:Bool
 w:List UInt8
 dg:List UInt8
noncomputable abbrev eF.p(f:eF):NP:=(f.nm,rf f.s 0)
noncomputable abbrev eF.sp(f:eF):D:= .dict .ks (xU f.nm f.t f.b)
noncomputable abbrev eF.st(f:eF):D:=rZ (uf f.w f.dg f.b) f.w
noncomputable abbrev JY(fs:List eF):List (Int×Int):=fs.map λf=>(f.s,0)
noncomputable def OB(h:Nat)(d:D)(rs:List (Int×Int)):Prop:=∃k,k < 200/\Ob h k d rs
section
variable{h k:Nat}{e l:List (aG×D)}{K:List aG}{vl:List D}{d x:D}{rs:List (Int×Int)}{fs:List eF}{f:eF}{ds:Bool}{t:Int}{nm w dg:List UInt8}{tr:Option D}
theorem nv(so:∀o:az,c_ (.d (.dict .ks e)) o= .ok (.d (.list (K.map cQ))) o)(ks:K.map (keyOf .ks∘cQ)=K.map some)(vs:K.map (aJ e)=vl.map some)(sz:Nat.blt K.length 64=true)(nn:vl.all (λv=> !v.isNone)=true):DK e K vl:=
 ⟨so,ks,vs,Nat.blt_eq.mp sz,λv hv=>by have:=cZ.mp nn v hv;revert this;cases v.isNone<;>decide⟩
theorem Gn:OB 4 (.dict .ks (xU nm t b)) (if b=true then[(t,0),(t,0)]else[(t,0)]):=by
 cases b with
 |false=>
  have e1:Ob 2 2 (.dict .ks (NC t false)) [(t,0)]:=ee (nv (K:=[.str "F"]) (vl:=[rf t 0]) (λo=>by kernel_rfl) (by kernel_rfl) (by kernel_rfl) (by decide) rfl) (aV jX cD);exact⟨_,by decide,dK (ee (nv (K:=[.str "EF", .str "F", .str "Type"]) (vl:=[.dict .ks (NC t false),e8 nm,wL "Filespec"]) (λo=>by kernel_rfl) (by kernel_rfl) (by kernel_rfl) (by decide) rfl) (aV e1 (aV (dK iV (by decide)) (aV (dK pe (by decide)) cD)))) (by decide)⟩
 |true=>
  have e1:Ob 2 3 (.dict .ks (NC t true)) [(t,0),(t,0)]:=ee (nv (K:=[.str "F", .str "UF"]) (vl:=[rf t 0,rf t 0]) (λo=>by kernel_rfl) (by kernel_rfl) (by kernel_rfl) (by decide) rfl) (aV jX (aV jX cD));exact⟨_,by decide,dK (ee (nv (K:=[.str "EF", .str "F", .str "Type", .str "UF"]) (vl:=[.dict .ks (NC t true),e8 nm,wL "Filespec",e8 nm]) (λo=>by kernel_rfl) (by kernel_rfl) (by kernel_rfl) (by decide) rfl) (aV e1 (aV (dK iV (by decide)) (aV (dK pe (by decide)) (aV (dK iV (by decide)) cD))))) (by decide)⟩
theorem Gm:OB 4 (rZ (uf w dg b) w) []:=by
 cases b with
 |false=>exact⟨_,by decide,dK (vg (nv (K:=[.str "Length"]) (vl:=[ln w]) (λo=>by kernel_rfl) (by kernel_rfl) (by kernel_rfl) (by decide) rfl) (aV qk cD)) (by decide)⟩
 |true=>
  have e1:Ob 2 3 (R4 w dg) []:=ee (nv (K:=[.str "CheckSum", .str "Size"]) (vl:=[.inst .string [.bytes dg, .bool true],ln w]) (λo=>by kernel_rfl) (by kernel_rfl) (by kernel_rfl) (by decide) rfl) (aV iV (aV qk cD));exact⟨_,by decide,vg (nv (K:=[.str "Length", .str "Params", .str "Type"]) (vl:=[ln w,R4 w dg,wL "EmbeddedFile"]) (λo=>by kernel_rfl) (by kernel_rfl) (by kernel_rfl) (by decide) rfl) (aV (dK qk (by decide)) (aV e1 (aV (dK pe (by decide)) cD)))⟩
theorem Gq:Ob 2 3 (.list [.int 1, .int 2]) []:=jJ (aV qk (aV qk cD)) (by decide)
theorem Cs:Ob 3 4 zE []:=ee (nv (K:=[.str "Names"]) (vl:=[.list [e8 [120], .int 7]]) (λo=>by kernel_rfl) (by kernel_rfl) (by kernel_rfl) (by decide) rfl) (aV (jJ (aV iV (aV qk cD)) (by decide)) cD)
theorem wI:Ob 4 (if ds=true then 5 else 1) (.dict .ks (Nl ds none)) []:=by
 cases ds with
 |true=>exact ee (nv (K:=[.str "Dests"]) (vl:=[zE]) (λo=>by kernel_rfl) (by kernel_rfl) (by kernel_rfl) (by decide) rfl) (aV Cs cD)
 |false=>exact ee (nv (K:=[]) (vl:=[]) (λo=>by kernel_rfl) (by kernel_rfl) (by kernel_rfl) (by decide) rfl) cD
theorem MH(hx:Ob h k x rs)(h3:3<=h)(hn:x.isNone=false):Ob (h+1) (if ds=true then k+5 else k+1) (.dict .ks (Nl ds (some x))) rs:=by
 have hx':=aV hx cD;rw[fC]at hx';have nb:∀o:az,c_ (.d (.dict .ks (Nl ds (some x)))) o= .ok (.d (.list ((if ds=true then[aG.str "Dests", .str "EmbeddedFiles"]else[.str "EmbeddedFiles"]).map cQ))) o:=λo=>by cases ds<;>kernel_rfl
 cases ds with
 |true=>
  have z:=aV (dK Cs h3) hx';have:=ee (nv (K:=[.str "Dests", .str "EmbeddedFiles"]) (vl:=[zE,x]) nb (by kernel_rfl) (by kernel_rfl) (by decide) (by show(true&&(!x.isNone&&true))=true;rw[hn];rfl)) z
  rwa [show 4+(k+0)+1=k+5 by exact congrArg Nat.succ (ng 4 k)]at this
 |false=>exact ee (nv (K:=[.str "EmbeddedFiles"]) (vl:=[x]) nb (by kernel_rfl) (by kernel_rfl) (by decide) (by show(!x.isNone&&true)=true;rw[hn];rfl)) hx'
theorem Gp(hx:Ob h k x rs)(hn:x.isNone=false)(h1:1<=h):Ob (h+1) (1+(k+1)+1) (.dict .ks (w_ x)) rs:=by
 have hx':=aV hx (aV (dK (pe (s:="Catalog")) h1) cD);rw[fC,fC]at hx';exact ee (nv (K:=[.str "Lang", .str "Names", .str "Type"]) (vl:=[e8 [101,110],x,wL "Catalog"]) (λo=>by kernel_rfl) (by kernel_rfl) (by kernel_rfl) (by decide) (by show(true&&(!x.isNone&&(true&&true)))=true;rw[hn];rfl)) (aV (dK iV h1) hx')
theorem MG:Ob 2 3 (.dict .ks Bl) []:=ee (nv (K:=[.str "Lang", .str "Type"]) (vl:=[e8 [101,110],wL "Catalog"]) (λo=>by kernel_rfl) (by kernel_rfl) (by kernel_rfl) (by decide) rfl) (aV iV (aV pe cD))
theorem yK:∀fs:List eF,JG 1 (2 * fs.length) (gX (fs.map eF.p)) (JY fs)
 | []=>cD
 |f::fs=>by
  have:=aV (iV (w:=f.nm) (q:=false)) (aV (jX (i:=f.s) (g:=0)) (yK fs));rw[show 1+(1+2 * fs.length)=2 * (fs.length+1)by exact YU]at this;exact this
theorem Kw(hl:fs.length<=30):Ob 3 (2 * fs.length+1+0+1) (fu (fs.map eF.p)) (JY fs):=by
 have x:=aV (jJ (yK fs) (by exact KL ‹_› rfl)) cD;rw[fC]at x;exact ee (nv (K:=[.str "Names"]) (vl:=[.list (gX (fs.map eF.p))]) (λo=>by kernel_rfl) (by kernel_rfl) (by kernel_rfl) (by decide) rfl) x
end
noncomputable abbrev bs:lT->List (Int×Int)
 | .one=>[(70,2),(60,0)]
 | .two=>[(70,2),(60,3),(61,0)]
 |_=>[(70,2)]
noncomputable abbrev zu(fs:List eF):List (Int×Int):=fs.flatMap λf=>[(f.s,0),(f.t,0)]
structure JH(T:List (aG×D))(d_:Int->List (Int×Int))(f:eF):Prop where
 ks:aJ T (.int f.s)=some (fK 0 f.sp)
 kt:aJ T (.int f.t)=some (fK 0 f.st)
 sl:f.s < 40
 tl:f.t < 40
 rs:∀q,q ∈ d_ f.s↔q=(f.t,0)
 rt:d_ f.t=[]
 wl:f.w.length<=3
 dg:Dg f.w f.dg
structure Wf(w:lT)(d_:Int->List (Int×Int)):Prop where
 one:w= .one->d_ 70=[(60,0)]
 two:w= .two->d_ 70=[(60,3)]/\d_ 60=[(61,0)]
noncomputable abbrev IK(T:List (aG×D)):Prop:=∀i g d,aJ T (.int i)=some (fK g d)->De 8 d
noncomputable abbrev EC:List (List UInt8):=[[97],[98],[97,98],[],[255]]
structure IP(T:List (aG×D))(wy:lT)(tr:Option D)(fs:List eF)(d_:Int->List (Int×Int))(E:List (Int×Int)):Prop where
 wt:WT T
 sz:T.length<=14
 hm:Hm T wy tr
 Jv:IJ T tr (fs.map eF.p)
 nd:(fs.map (λZ=>Z.nm)).Nodup
 so:fs.Pairwise λa b=>cP.blt b.nm a.nm=false
 fl:∀f ∈ fs,JH T d_ f
 ch:QI T d_ E
 ky:∀i,(∃d,aJ T (.int i)=some d)->i=40\/∃p ∈ E,p.1=i
 no:∀p ∈ E,p.1≠40
 wr:Wf wy d_
 tl:IK T
 n5:∀f ∈ fs,f.nm ∈ EC
noncomputable abbrev i9(fs:List eF):List eF:=gH (λa b=>cP.blt a.nm b.nm) fs
noncomputable def Nn:lT->Int
 | .one=>60
 | .two=>61
 |_=>70
noncomputable def Ng:lT->Int
 | .one=>0
 | .two=>0
 |_=>2
noncomputable def Nv(w:lT)(ps:List NP):D:=match w with
 | .one=>A5 w ps
 | .two=>A5 w ps
 |_=> .dict .ks (w_ (A5 w ps))
section
variable{n k:Nat}{T R e:List (aG×D)}{i g:Int}{d_:Int->List (Int×Int)}{E:List (Int×Int)}{wy:lT}{tr:Option D}{gs fs:List eF}{ps:List NP}
theorem Bb:qt T wy ps=b_ T (.int (Nn wy)) (fK (Ng wy) (Nv wy ps)):=by cases wy<;>rfl
theorem wo:(i9 gs).map eF.p=lF (gs.map eF.p):=(rV (g:=eF.p) (lt:=λa b=>cP.blt a.nm b.nm) (lt':=λa b=>cP.blt a.1 b.1) (λZ Z=>rfl) gs).symm
theorem yu:(i9 gs).Pairwise λa b=>cP.blt b.nm a.nm=false:=qf (λa b h=>by
 cases q:cP.blt b.nm a.nm with
 |false=>rfl
 |true=>have:=cP.trans _ _ _ h q;rw[cP.irrefl]at this;cases this) (λa b c h1 h2=>by
 cases q:cP.blt c.nm a.nm with
 |false=>rfl
 |true=>exact((cP.negTrans _ b.nm _ q).elim (λh=>by rw[show cP.blt c.nm b.nm=false from h2]at h;cases h) λh=>by rw[show cP.blt b.nm a.nm=false from h1]at h;cases h)) gs
theorem eZ:f ∈ i9 gs↔f ∈ gs:=(cu gs).mem_iff
theorem Sm(hl:gs.length<=5):∃k,k < 100/\Ob 4 k (A5 wy (gs.map eF.p)) (JY (i9 gs)):=by
 cases gs with
 |nil=>exact⟨_,by cases wy.ds<;>decide,wI⟩
 |cons f r=>
  have hs:(i9 (f::r)).length<=5:=by rw[(cu _).length_eq];exact hl
  have e:A5 wy ((f::r).map eF.p)= .dict .ks (Nl wy.ds (some (fu ((i9 (f::r)).map eF.p)))):=by rw[wo];rfl
  rw[e];exact⟨_,by split<;>first |exact eG (GH (d:=7) (b:=17) hs rfl) (by decide) |exact eG (GH (d:=3) (b:=13) hs rfl) (by decide),MH (Kw (cS hs (by decide))) (by decide) rfl⟩
theorem Sl(hl:gs.length<=5):OB 5 (Nv wy (gs.map eF.p)) (JY (i9 gs)):=by
 obtain⟨k,hk,z⟩:=Sm (wy:=wy) hl;have h2:OB 5 (.dict .ks (w_ (A5 wy (gs.map eF.p)))) (JY (i9 gs)):=⟨_,by exact eG (jR (congrArg Nat.succ (ng 1 (k+1)))) (vV (Nat.add_lt_add_right hk 3) (by decide)),Gp z rfl (by decide)⟩;have h1:OB 5 (A5 wy (gs.map eF.p)) (JY (i9 gs)):=⟨_,by exact qq ‹_› rfl,dK z (by decide)⟩;cases wy<;>first |exact h1 |exact h2
theorem gM:p ∈ zu gs↔∃f ∈ gs,p=(f.s,0)\/p=(f.t,0):=by
 rw[List.mem_flatMap];exact exists_congr λf=>and_congr Iff.rfl ⟨λh=>(cN.mp h).imp id dQ.mp,λh=>h.elim (λh=>h▸ .head _) λh=>h▸ .tail _ (.head _)⟩
theorem jq(h:aJ T (.int p.1)=some (fK p.2 d)):jm T p=true:=by rw[v9 h];exact cM rfl
theorem NW:40 < Nn wy:=by cases wy<;>first |decide |exact(by decide:(40:Int) < 70)
theorem CW:∀gs:List eF,(zu gs).length=2 * gs.length
 | []=>rfl
 |f::r=>by
  show(zu r).length+1+1=2 * (r.length+1);rw[CW r];rfl
theorem Yl(wy:lT):∃g,(Nn wy,g) ∈ bs wy:=by cases wy<;>exact⟨_,by simp[Nn,bs];rfl⟩
theorem Iu:((70,2):Int×Int) ∈ bs wy:=by cases wy<;>exact .head _
theorem UN(h:p ∈ bs wy):40 < p.1:=by
 have:(bs wy).all (λp=>decide (40 < p.1))=true:=by cases wy<;>rfl
 exact iD (cZ.mp this p h)
theorem PK(H:Hm T wy tr):Hm (qt T wy ps) (Mv wy) (VF ps):=by
 have g:∀j,aJ (qt T wy ps) (.int j)=if Nn wy=j then some (fK (Ng wy) (Nv wy ps))else aJ T (.int j):=λj=>by
  rw[Bb,ia];exact ite_congr (propext ⟨aG.int.inj,congrArg _⟩) (λZ=>rfl) λZ=>rfl
 cases wy with
 |inl b=>exact⟨(g 70).trans (bw rfl),(g 40).trans ((aZ (show¬(70:Int)=40 by decide)).trans H.j),(λh=>nomatch h),(λh=>nomatch h),λh=>nomatch h⟩
 |no=>exact⟨(g 70).trans (bw rfl),(g 40).trans ((aZ (show¬(70:Int)=40 by decide)).trans H.j),(λh=>nomatch h),(λh=>nomatch h),λh=>nomatch h⟩
 |one=>exact⟨(g 70).trans ((aZ (by decide)).trans H.r),(g 40).trans ((aZ (by decide)).trans H.j),λZ=>(g 60).trans (bw rfl),(λh=>nomatch h),λh=>nomatch h⟩
 |two=>exact⟨(g 70).trans ((aZ (by decide)).trans H.r),(g 40).trans ((aZ (by decide)).trans H.j),(λh=>nomatch h),λZ=>⟨(g 60).trans ((aZ (by decide)).trans (H.n2 rfl).1),(g 61).trans (bw rfl)⟩,λh=>nomatch h⟩
theorem Ym:bs (Mv wy)=bs wy:=by cases wy<;>rfl
theorem UM(H:Hm T wy tr)(h:p ∈ bs wy):jm T p=true:=by
 cases wy with
 |inl b=>cases dQ.mp h;exact jq H.r
 |no=>cases dQ.mp h;exact jq H.r
 |one=>rcases cN.mp h with rfl |h;exact jq H.r;cases dQ.mp h;exact jq (H.n1 rfl)
 |two=>
  rcases cN.mp h with rfl |h;exact jq H.r
  rcases cN.mp h with rfl |h;exact jq (H.n2 rfl).1
  cases dQ.mp h;exact jq (H.n2 rfl).2
theorem GR{L:List Int}(W:WT T)(h:∀i,(∃d,aJ T (.int i)=some d)->i ∈ L):T.length<=L.length:=by
 have:=W.nd.length_le_of_subset (l₂:=L.map aG.int) λx hx=>by
  obtain⟨p,hp,rfl⟩:=mM hx;obtain⟨i,g,d,rfl⟩:=W.en p hp;refine cX.mpr ⟨i,h i ?_,rfl⟩;cases q:aJ T (.int i)with
  |some d=>exact⟨d,rfl⟩
  |none=>exact absurd (cM rfl) (Ar.mp (Option.map_eq_none_iff.mp q) _ hp)
 rwa [cO,cO]at this
theorem GS(nd:(gs.map (λZ=>Z.nm)).Nodup)(n5:∀f ∈ gs,f.nm ∈ EC):gs.length<=5:=by
 have:=nd.length_le_of_subset (l₂:=EC) λx hx=>by obtain⟨f,hf,rfl⟩:=mM hx;exact n5 f hf
 rwa [cO]at this
inductive SW(n:Nat)(T:List (aG×D))(wy:lT)(gs:List eF):Prop
 |mk (T2 jU E2) (_:fn 49 (run (n+10)) [sh, .d (.list ((gs.map eF.p).map pr))] (O4 T R0)= .ok (.d .none) (O4 T2 R0)) (_:IP T2 (Mv wy) (VF (gs.map eF.p)) (i9 gs) jU E2) (_:T2.length<=2 * gs.length+4)
theorem SX{n:Nat}(W:WT T)(sz:T.length<=20)(H:Hm T wy tr)(RR:Wf wy d_)(C:QI T d_ E)(no:∀p ∈ E,p.1≠40)(nd:(gs.map (λZ=>Z.nm)).Nodup)(n5:∀f ∈ gs,f.nm ∈ EC)(fl:∀f ∈ gs,JH T d_ f)
  (rk:∀i,(∃d,aJ T (.int i)=some d)->i=40\/(∃p ∈ E,p.1=i)\/∃f ∈ gs,f.s=i\/f.t=i)(tl:IK T):SW n T wy gs:=by
 have hl:=GS nd n5;have g:∀j,aJ (qt T wy (gs.map eF.p)) (.int j)=if Nn wy=j then some (fK (Ng wy) (Nv wy (gs.map eF.p)))else aJ T (.int j):=λj=>by
  rw[Bb,ia];exact ite_congr (propext ⟨aG.int.inj,congrArg _⟩) (λZ=>rfl) λZ=>rfl
 have W1:WT (qt T wy (gs.map eF.p)):=by rw[Bb];exact W.set (by exact pA ‹_› rfl)
 have H1:Hm (qt T wy (gs.map eF.p)) (Mv wy) (VF (gs.map eF.p)):=PK H;generalize hT1:qt T wy (gs.map eF.p)=T1 at g W1 H1;obtain⟨k0,hk0,ob⟩:=Sl (wy:=wy) hl
 let jU:Int->List (Int×Int):=λi=>if i=Nn wy then JY (i9 gs)else d_ i
 have MC:jU (Nn wy)=JY (i9 gs):=bw rfl;have FU:∀{i},i≠Nn wy->jU i=d_ i:=λh=>aZ h;have Ld:∀{f},f ∈ gs->f.s≠Nn wy/\f.t≠Nn wy:=λ{f} hf=>⟨by have:=(fl f hf).sl;have:=NW (wy:=wy);exact Int.ne_of_lt (Int.lt_trans (by assumption) (by assumption)),by have:=(fl f hf).tl;have:=NW (wy:=wy);exact Int.ne_of_lt (Int.lt_trans (by assumption) (by assumption))⟩;have xX:∀f ∈ gs,JH T1 jU f:=λf hf=>⟨(g _).trans ((aZ λh=>(Ld hf).1 h.symm).trans (fl f hf).ks),(g _).trans ((aZ λh=>(Ld hf).2 h.symm).trans (fl f hf).kt),(fl f hf).sl,(fl f hf).tl,by rw[FU (Ld hf).1];exact(fl f hf).rs,by rw[FU (Ld hf).2];exact(fl f hf).rt,(fl f hf).wl,(fl f hf).dg⟩;have RP:∀q ∈ JY (i9 gs),q ∈ zu gs:=λq hq=>by
  obtain⟨f,hf,rfl⟩:=mM hq;exact gM.mpr ⟨f,eZ.mp hf, .inl rfl⟩
 have QJ:Wf (Mv wy) jU:=by
  clear xX Ld MC ob hk0 hT1 H1 g H;cases wy with
  |inl b=>exact⟨(λh=>nomatch h),λh=>nomatch h⟩
  |no=>exact⟨(λh=>nomatch h),λh=>nomatch h⟩
  |one=>exact⟨λZ=>(FU (by decide)).trans (RR.one rfl),λh=>nomatch h⟩
  |two=>exact⟨(λh=>nomatch h),λZ=>⟨(FU (by decide)).trans (RR.two rfl).1,(FU (by decide)).trans (RR.two rfl).2⟩⟩
 have Rg:RT T1 jU:=λi gg d hd=>by
  rw[g]at hd
  by_cases h:Nn wy=i
  ·rw[bw h]at hd;cases hd;subst h;exact⟨k0,by exact qq ‹_› rfl,MC▸ob.rf⟩
  ·rw[aZ h]at hd;rw[FU λq=>h q.symm];exact C.rt i gg d hd
 have Rf:∀p ∈ bs wy++zu gs,jm T1 p=true:=λp hp=>by
  rcases gU.mp hp with h |h
  ·exact UM H1 (by rw[Ym];exact h)
  ·obtain⟨f,hf,rfl |rfl⟩:=gM.mp h
   ·exact jq (xX f hf).ks
   ·exact jq (xX f hf).kt
 have UG:∀p ∈ bs wy++zu gs,∀q ∈ jU p.1,q ∈ bs wy++zu gs:=λp hp q hq=>by
  rcases gU.mp hp with h |h
  ·by_cases hN:p.1=Nn wy
   ·rw[hN,MC]at hq;exact iF _ (RP q hq)
   ·rw[FU hN]at hq;refine g6 _ ?_;clear hp Rf Rg QJ RP xX Ld FU MC jU ob hk0 k0 hT1 H1 W1 g hl tl rk fl n5 nd C H sz W n T1;cases wy with
    |inl b=>cases dQ.mp h;exact absurd rfl hN
    |no=>cases dQ.mp h;exact absurd rfl hN
    |one=>
     rcases cN.mp h with rfl |h
     ·rw[RR.one rfl]at hq;exact .tail _ hq
     ·cases dQ.mp h;exact absurd rfl hN
    |two=>
     rcases cN.mp h with rfl |h
     ·rw[(RR.two rfl).1]at hq;cases dQ.mp hq;exact .tail _ (.head _)
     rcases cN.mp h with rfl |h
     ·rw[(RR.two rfl).2]at hq;cases dQ.mp hq;exact .tail _ (.tail _ (.head _))
     ·cases dQ.mp h;exact absurd rfl hN
  ·refine iF _ ?_;obtain⟨f,hf,rfl |rfl⟩:=gM.mp h
   ·rw[((xX f hf).rs q).mp hq];exact gM.mpr ⟨f,hf, .inr rfl⟩
   ·rw[(xX f hf).rt]at hq;cases hq
 have VP:∀S:Int×Int->Prop,S (70,2)->(∀p ∈ bs wy++zu gs,S p->∀q ∈ jU p.1,S q)->∀p ∈ bs wy++zu gs,S p:=λS s0 st=>by
  have sb:∀p ∈ bs wy,S p:=λp h=>by
   clear UG Rf Rg RP xX Ld FU MC ob hk0 k0 hT1 H1 W1 g hl tl rk fl n5 nd C RR H sz W n T1;cases wy with
   |inl b=>cases dQ.mp h;exact s0
   |no=>cases dQ.mp h;exact s0
   |one=>
    rcases cN.mp h with rfl |h;exact s0
    cases dQ.mp h;exact st _ (.head _) s0 _ (by rw[QJ.one rfl];exact .head _)
   |two=>
    have s1:S (60,3):=st _ (.head _) s0 _ (by rw[(QJ.two rfl).1];exact .head _);rcases cN.mp h with rfl |h;exact s0
    rcases cN.mp h with rfl |h;exact s1
    cases dQ.mp h;exact st _ (.tail _ (.head _)) s1 _ (by rw[(QJ.two rfl).2];exact .head _)
  obtain⟨gg,hb⟩:=Yl wy;have ss:∀f ∈ gs,S (f.s,0):=λf hf=>st _ (g6 _ hb) (sb _ hb) _ (by show _ ∈ jU (Nn wy);rw[MC];exact cX.mpr ⟨f,eZ.mpr hf,rfl⟩);intro p hp;rcases gU.mp hp with h |h
  ·exact sb p h
  ·obtain⟨f,hf,rfl |rfl⟩:=gM.mp h
   ·exact ss f hf
   ·exact st _ (iF _ (gM.mpr ⟨f,hf, .inl rfl⟩)) (ss f hf) _ (((xX f hf).rs _).mpr rfl)
 have yN:((gs.map eF.p).map (λZ=>Z.1)).Nodup:=by rw[dB];exact nd
 obtain⟨T2,e,W2,z1,z2⟩:=f49 (n:=n) (E1:=bs wy++zu gs) (RZ:=jU) W C H yN (by rw[cO];exact qq ‹_› rfl) (hT1▸W1) (hT1▸⟨Rg,Rf,g6 _ Iu,UG,VP⟩);rw[hT1]at z1 z2;have WX:∀p ∈ bs wy++zu gs,p.1≠40:=λp hp=>by
  rcases gU.mp hp with h |h
  ·have:=UN h;exact Int.ne_of_gt (by assumption)
  ·obtain⟨f,hf,rfl |rfl⟩:=gM.mp h
   ·have:=(fl f hf).sl;exact Int.ne_of_lt this
   ·have:=(fl f hf).tl;exact Int.ne_of_lt this
 have kp:∀{i},(i=40\/∃p ∈ bs wy++zu gs,p.1=i)->aJ T2 (.int i)=aJ T1 (.int i):=λ{i} h=>z2 i λq=>h.elim (λh=>q.2 ⟨⟨_,h▸H.j⟩,λp hp=>h▸no p hp⟩) λ⟨p,hp,e⟩=>q.1.2 p hp e;have sub:∀{i d},aJ T2 (.int i)=some d->aJ T1 (.int i)=some d:=λ{i d} h=>by
  by_cases q:Un T1 (bs wy++zu gs) i/\¬Un T E i
  ·rw[z1 i q]at h;cases h
  ·rwa [z2 i q]at h
 have VY:∀{p:Int×Int},p ∈ bs wy->aJ T2 (.int p.1)=aJ T1 (.int p.1):=λh=>kp (.inr ⟨_,g6 _ h,rfl⟩);have ky:∀i,(∃d,aJ T2 (.int i)=some d)->i=40\/∃p ∈ bs wy++zu gs,p.1=i:=λi ⟨d,hd⟩=>by
  by_cases q:∃p ∈ bs wy++zu gs,p.1=i
  ·exact .inr q
  ·by_cases u:Un T E i
   ·rcases rk i u.1 with h |⟨p,hp,h⟩ |⟨f,hf,h⟩
    ·exact .inl h
    ·exact absurd h (u.2 p hp)
    ·exact .inr (h.elim (λh=>⟨(f.s,0),iF _ (gM.mpr ⟨f,hf, .inl rfl⟩),h⟩) λh=>⟨(f.t,0),iF _ (gM.mpr ⟨f,hf, .inr rfl⟩),h⟩)
   ·rw[z1 i ⟨⟨⟨d,sub hd⟩,λp hp h=>q ⟨p,hp,h⟩⟩,u⟩]at hd;cases hd
 have ln:T2.length<=2 * gs.length+4:=by
  have:=GR (L:=40::(bs wy++zu gs).map (λZ=>Z.1)) W2 λi hi=>(ky i hi).elim (λh=>h▸ .head _) λ⟨p,hp,h⟩=> .tail _ (cX.mpr ⟨p,hp,h⟩);have h1:(bs wy).length<=3:=by cases wy<;>first |decide |exact(by decide:1<=3)
  have h2:=CW gs;rw[jS,cO,dJ]at this;rw[h2]at this;exact cS this (kX (cS (oV h1 _) (jR (ng 3 _))))
 have KD:((i9 gs).map (λZ=>Z.nm)).Nodup:=((cu gs).map _).nodup_iff.mpr nd;have ln2:(i9 gs).length<=5:=by rw[(cu gs).length_eq];exact hl
 refine⟨T2,jU,bs wy++zu gs,e,⟨W2,by exact cS ln (GH hl rfl), ?_, ?_,KD,yu,λf hf=> ?_,⟨λi gg d hd=>Rg i gg d (sub hd),λp hp=> ?_,g6 _ Iu,UG,VP⟩,ky,WX,QJ,λi gg d hd=> ?_,λf hf=>n5 f (eZ.mp hf)⟩,ln⟩
 ·have HK:aJ T2 (.int 70)=aJ T1 (.int 70):=VY Iu;refine⟨HK.trans H1.r,(kp (.inl rfl)).trans H1.j,λh=> ?_,λh=> ?_,H1.no⟩
  ·clear HK ln2 KD ln ky sub kp WX z2 z1 W2 e yN VP UG Rf Rg QJ RP xX Ld FU MC jU ob hk0 k0 hT1 W1 g hl tl rk fl n5 nd no C RR H sz W n;cases wy<;>first |(cases h;done) |skip
   exact(VY (p:=(60,0)) (.tail _ (.head _))).trans (H1.n1 rfl)
  ·clear HK ln2 KD ln ky sub kp WX z2 z1 W2 e yN VP UG Rf Rg QJ RP xX Ld FU MC jU ob hk0 k0 hT1 W1 g hl tl rk fl n5 nd no C RR H sz W n;cases wy<;>first |(cases h;done) |skip
   exact⟨(VY (p:=(60,3)) (.tail _ (.head _))).trans (H1.n2 rfl).1,(VY (p:=(61,0)) (.tail _ (.tail _ (.head _)))).trans (H1.n2 rfl).2⟩
 ·rw[wo];cases hg:gs.map eF.p with
  |nil=>exact⟨λZ=>rfl,(λt h=>nomatch h),(λt h=>nomatch h),(λt h=>nomatch h),pY _⟩
  |cons p r=>
   have e2:lF (p::r)=(i9 gs).map eF.p:=by rw[<-hg,wo]
   show IJ T2 (some (fu (lF (p::r)))) (lF (p::r));rw[e2];exact E_ (by rw[dB];exact KD) (lR.mpr yu) (by rw[cO];exact qq ‹_› rfl)
 ·have hf:=eZ.mp hf;exact⟨(kp (.inr ⟨(f.s,0),iF _ (gM.mpr ⟨f,hf, .inl rfl⟩),rfl⟩)).trans (xX f hf).ks,(kp (.inr ⟨(f.t,0),iF _ (gM.mpr ⟨f,hf, .inr rfl⟩),rfl⟩)).trans (xX f hf).kt,(xX f hf).sl,(xX f hf).tl,(xX f hf).rs,(xX f hf).rt,(xX f hf).wl,(xX f hf).dg⟩
 ·have:=Rf p hp;unfold jm at *
  rwa [kp (.inr ⟨p,hp,rfl⟩)]
 ·have hd:=sub hd;rw[g]at hd
  by_cases h:Nn wy=i
  ·rw[bw h]at hd;cases hd;exact v7 ob.tl (by decide)
  ·rw[aZ h]at hd;exact tl i gg d hd
end
section
variable{n k:Nat}{T R e:List (aG×D)}{i g:Int}{d_:Int->List (Int×Int)}{E:List (Int×Int)}{wy:lT}{tr:Option D}{gs fs:List eF}{ps:List NP}{o:az}{nm w dg:List UInt8}{d:D}
theorem GO(W:WT T):∃k,k<=T.length/\(∀a:Nat,a < k->∃d,aJ T (.int (1+a))=some d)/\aJ T (.int (1+k))=none:=by
 have h:∀m,(∃k,k < m/\(∀a:Nat,a < k->∃d,aJ T (.int (1+a))=some d)/\aJ T (.int (1+k))=none)\/∀a:Nat,a < m->∃d,aJ T (.int (1+a))=some d:=λm=>by
  induction m with
  |zero=>exact .inr λa h=>absurd h (Nat.not_lt_zero a)
  |succ m ih=>
   rcases ih with⟨k,h1,h2⟩ |h
   ·exact .inl ⟨k,Nat.lt_succ_of_lt h1,h2⟩
   ·cases q:aJ T (.int (1+m))with
    |none=>exact .inl ⟨m,Nat.lt_succ_self m,h,q⟩
    |some d=>exact .inr λa ha=>(Nat.lt_or_eq_of_le (Nat.le_of_lt_succ ha)).elim (h a) λe=>e▸⟨d,q⟩
 rcases h (T.length+1)with⟨k,h1,h2⟩ |h
 ·exact⟨k,Nat.le_of_lt_succ h1,h2⟩
 ·have nd:((List.range (T.length+1)).map λa:Nat=>aG.int (1+a)).Nodup:=lR.mpr (List.nodup_range.imp λh e=>h (by have:=aG.int.inj e;exact Int.ofNat.inj (Int.add_left_cancel this)));have:=nd.length_le_of_subset (l₂:=T.map (λZ=>Z.1)) λx hx=>by
   obtain⟨a,ha,rfl⟩:=mM hx;obtain⟨d,hd⟩:=h a (List.mem_range.mp ha);exact cX.mpr ⟨_,iM hd,rfl⟩
  rw[cO,cO,List.length_range]at this;exact absurd this (Nat.not_succ_le_self _)
theorem IE(W:WT T)(sz:T.length<=20):∃i:Int,i < 40/\aJ T (.int i)=none/\∀n v R,fn 67 (run n) [sh, .d v] (O4 T R)= .ok (.d (rf i 0)) (O4 (b_ T (.int i) (fK 0 v)) R):=by
 obtain⟨k,h1,h2,h3⟩:=GO W;exact⟨1+k,by exact Int.lt_of_le_of_lt (Int.add_le_add_left (pZ.mpr (cS h1 sz)) 1) (by decide),h3,λn v R=>ZM W.c6 h2 h3 (by exact eG (cS h1 sz) (by decide))⟩
theorem WY:gA (.d (.bytes a)) (.d (.bytes b)) o= .ok (.d (.bool (!decide (a=b)))) o:=rfl
theorem Yr(hl:a.length+b.length < 1000000):cF (.d (.list a)) (.d (.list b)) o= .ok (.d (.list (a++b))) o:=by
 show bz (c6 (a.length+b.length)) _=_;rw[bR hl];rfl
theorem eqI:gi (.d (.int a)) (.d (.int b)) o= .ok (.d (.bool (decide (a=b)))) o:=rfl
noncomputable abbrev xV(fs:List eF)(nm:List UInt8):List eF:=fs.filter λf=> !decide (f.nm=nm)
theorem MD:(fs.map eF.p).filter (λq=> !decide (q.1=nm))=(xV fs nm).map eF.p:=List.filter_map
theorem gJ:f ∈ xV fs nm↔f ∈ fs/\f.nm≠nm:=iE.trans (and_congr Iff.rfl (by rw[Bool.not_eq_true',decide_eq_false_iff_not]))
theorem Ga(nd:(fs.map (λZ=>Z.nm)).Nodup):((xV fs nm).map (λZ=>Z.nm)).Nodup:=nd.sublist (rL.map _)
noncomputable def qH(fs:List eF)(nm w:List UInt8):Prop:=∃f ∈ fs,f.nm=nm/\f.w=w
inductive XX(n:Nat)(T:List (aG×D))(wy:lT)(fs:List eF)(nm:List UInt8)(w:List UInt8)(dg:List UInt8):Prop
 |mk (T2 RJ Ak jU E2 i f) (_:fn 52 (run (n+11)) [sh, .d (.bytes nm), .d (rZ (uf w dg true) w)] (O4 T R0)= .ok (.d (rf i 0)) (O4 T2 R0)) (_:IP T2 (Mv wy) RJ Ak jU E2) (_:T2.length<=2 * Ak.length+4) (_:f ∈ Ak) (_:f.s=i) (_:f.nm=nm) (_:∀a b,qH Ak a b↔(a=nm/\b=w)\/(a≠nm/\qH fs a b))
theorem f52{n:Nat}(S:IP T wy tr fs d_ E)(hnm:nm ∈ EC)(hw:w.length<=3)(hd:Dg w dg):XX n T wy fs nm w dg:=by
 have sz:=S.sz;obtain⟨t,ht,t0,a1⟩:=IE S.wt (by exact qq ‹_› rfl);have W1:WT (b_ T (.int t) (fK 0 (rZ (uf w dg true) w))):=S.wt.set (by exact pA ‹_› rfl);have l1:(b_ T (.int t) (fK 0 (rZ (uf w dg true) w))).length<=15:=cS iK (by exact pA ‹_› rfl);have g1:∀j,aJ (b_ T (.int t) (fK 0 (rZ (uf w dg true) w))) (.int j)=if t=j then some (fK 0 (rZ (uf w dg true) w))else aJ T (.int j):=λj=>ia.trans (ite_congr (propext ⟨aG.int.inj,congrArg _⟩) (λU=>rfl) λU=>rfl)
 generalize hT1:b_ T (.int t) (fK 0 (rZ (uf w dg true) w))=T1 at W1 l1 g1;obtain⟨s,hs,s0,a2⟩:=IE W1 (by exact qq ‹_› rfl);have W2:WT (b_ T1 (.int s) (fK 0 (.dict .ks (xU nm t true)))):=W1.set (by exact pA ‹_› rfl);have l2:(b_ T1 (.int s) (fK 0 (.dict .ks (xU nm t true)))).length<=16:=cS iK (by exact pA ‹_› rfl);have st:¬t=s:=λh=>by rw[g1,bw h]at s0;cases s0
 have g2:∀j,aJ (b_ T1 (.int s) (fK 0 (.dict .ks (xU nm t true)))) (.int j)=if s=j then some (fK 0 (.dict .ks (xU nm t true)))else if t=j then some (fK 0 (rZ (uf w dg true) w))else aJ T (.int j):=λj=>(ia.trans (ite_congr (propext ⟨aG.int.inj,congrArg _⟩) (λU=>rfl) λU=>rfl)).trans (by rw[g1])
 generalize hT2:b_ T1 (.int s) (fK 0 (.dict .ks (xU nm t true)))=T2 at W2 l2 g2;have b1:∀n R,fn 67 (run n) [sh, .d (rZ (uf w dg true) w)] (O4 T R)= .ok (.d (rf t 0)) (O4 T1 R):=λn R=>(a1 n _ R).trans (by rw[hT1]);have b2:∀n R,fn 67 (run n) [sh, .d (.dict .ks (xU nm t true))] (O4 T1 R)= .ok (.d (rf s 0)) (O4 T2 R):=λn R=>(a2 n _ R).trans (by rw[hT2]);have sT:aJ T (.int s)=none:=by rw[g1,aZ st]at s0;exact s0
 have old:∀{j d},aJ T (.int j)=some d->s≠j/\t≠j/\aJ T2 (.int j)=some d:=λ{j d} h=>by
  have q1:s≠j:=λe=>by rw[<-e,sT]at h;cases h
  have q2:t≠j:=λe=>by rw[<-e,t0]at h;cases h
  exact⟨q1,q2,by rw[g2,aZ q1,aZ q2,h]⟩
 let yy:Int->List (Int×Int):=λi=>if i=s then[(t,0),(t,0)]else if i=t then[]else d_ i
 have r1:yy s=[(t,0),(t,0)]:=bw rfl;have r2:yy t=[]:=(aZ st).trans (bw rfl);have r3:∀{j},s≠j->t≠j->yy j=d_ j:=λh1 h2=>(aZ λh=>h1 h.symm).trans (aZ λh=>h2 h.symm);have kE:∀p ∈ E,s≠p.1/\t≠p.1/\jm T2 p=true:=λp hp=>by
  obtain⟨d,hd⟩:=S.wt.jm (S.ch.th p hp);obtain⟨q1,q2,q3⟩:=old hd;exact⟨q1,q2,jq q3⟩
 have H2:Hm T2 wy tr:=⟨(old S.hm.r).2.2,(old S.hm.j).2.2,λh=>(old (S.hm.n1 h)).2.2,λh=>⟨(old (S.hm.n2 h).1).2.2,(old (S.hm.n2 h).2).2.2⟩,S.hm.no⟩;have RR:Wf wy yy:=⟨λh=>(r3 (old S.hm.r).1 (old S.hm.r).2.1).trans (S.wr.one h),λh=>⟨(r3 (old S.hm.r).1 (old S.hm.r).2.1).trans (S.wr.two h).1,(r3 (old (S.hm.n2 h).1).1 (old (S.hm.n2 h).1).2.1).trans (S.wr.two h).2⟩⟩;have C2:QI T2 yy E:=⟨λi g d hd=>by
  rw[g2]at hd
  by_cases q1:s=i
  ·rw[bw q1]at hd;cases hd;obtain⟨k,hk,z⟩:=Gn (nm:=nm) (t:=t) (b:=true);exact⟨k,by exact qq ‹_› rfl,by rw[<-q1,r1];exact z.rf⟩
  ·rw[aZ q1]at hd
   by_cases q2:t=i
   ·rw[bw q2]at hd;cases hd;obtain⟨k,hk,z⟩:=Gm (w:=w) (dg:=dg) (b:=true);exact⟨k,by exact qq ‹_› rfl,by rw[<-q2,r2];exact z.rf⟩
   ·rw[aZ q2]at hd;rw[r3 q1 q2];exact S.ch.rt i g d hd,λp hp=>(kE p hp).2.2,S.ch.bg,λp hp q hq=>by
    rw[r3 (kE p hp).1 (kE p hp).2.1]at hq;exact S.ch.cl p hp q hq,λZ z0 zs=>S.ch.re Z z0 λp hp zp q hq=>zs p hp zp q (by rw[r3 (kE p hp).1 (kE p hp).2.1];exact hq)⟩
 have Wy:IK T2:=λi g d hd=>by
  rw[g2]at hd
  by_cases q1:s=i
  ·rw[bw q1]at hd;cases hd;exact v7 (Gn (nm:=nm) (t:=t) (b:=true)).choose_spec.2.tl (by decide)
  ·rw[aZ q1]at hd
   by_cases q2:t=i
   ·rw[bw q2]at hd;cases hd;exact v7 (Gm (w:=w) (dg:=dg) (b:=true)).choose_spec.2.tl (by decide)
   ·rw[aZ q2]at hd;exact S.tl i g d hd
 let f:eF:=⟨nm,s,t,true,w,dg⟩
 have Zd:((xV fs nm++[f]).map (λZ=>Z.nm)).Nodup:=by
  rw[fZ];exact nk.mpr ⟨Ga S.nd,fU.mpr ⟨(λh=>nomatch h),nh⟩,λa ha b hb e=>by
   obtain⟨f',hf',rfl⟩:=mM ha;clear ha Wy C2 RR H2 kE r3 r2 r1 yy old sT b2 b1 hT2 g2 st l2 W2 a2 s0 hs hT1 g1 hd hw hnm S n T2;cases dQ.mp hb;exact(gJ.mp hf').2 e⟩
 have ZG:∀f' ∈ xV fs nm++[f],JH T2 yy f':=λf' hf'=>by
  rcases gU.mp hf' with h |h
  ·have F:=S.fl f' (gJ.mp h).1;obtain⟨p1,p2,p3⟩:=old F.ks;obtain⟨q1,q2,q3⟩:=old F.kt;exact⟨p3,q3,F.sl,F.tl,by rw[r3 p1 p2];exact F.rs,by rw[r3 q1 q2];exact F.rt,F.wl,F.dg⟩
  ·cases dQ.mp h;exact⟨by rw[g2,bw rfl],by rw[g2,aZ λh=>st h.symm,bw rfl],hs,ht,λq=>by rw[r1];exact⟨λh=>(cN.mp h).elim id dQ.mp,λh=>h▸ .head _⟩,r2,hw,hd⟩
 have Zf:∀f' ∈ xV fs nm++[f],f'.nm ∈ EC:=λf' hf'=>by
  rcases gU.mp hf' with h |h
  ·exact S.n5 f' (gJ.mp h).1
  ·cases dQ.mp h;exact hnm
 obtain⟨T3,J_,E3,e,S3,VX⟩:=SX (n:=n) W2 (by exact qq ‹_› rfl) H2 RR C2 S.no Zd Zf ZG (λi ⟨d,hd⟩=>by
  rw[g2]at hd
  by_cases q1:s=i
  ·exact .inr (.inr ⟨f,iF _ (.head _), .inl q1⟩)
  ·rw[aZ q1]at hd
   by_cases q2:t=i
   ·exact .inr (.inr ⟨f,iF _ (.head _), .inr q2⟩)
   ·rw[aZ q2]at hd;exact(S.ky i ⟨d,hd⟩).imp id .inl) Wy
 have cm:=gT (out:=bh) (acc:=[]) (pn:=none) (o:=O4 T R0) (mk:=λq:NP=>V.d (pr q)) (nx:=λq=>some (V.d (pr q))) (L:=λy=>some sh::some (.d (.bytes nm))::some (.d (rZ (uf w dg true) w))::none::none::none::y::List.replicate 10 none) (bd:=aU 6) (t:=aE gA (aB aC (af 6) (ai (.int 0))) (af 1)) (e:=af 6) (p:=λq=> !decide (q.1=nm)) (f:=pr) (l:=fs.map eF.p) (y:=none) rfl (λx y=>rfl) (λx hx=>⟨aQ (aN rfl rfl rfl) rfl WY rfl,λU=>rfl⟩) (by rw[nj,jQ];exact eG S.Jv.sz (by decide));rw[MD]at cm;have lo:((xV fs nm).map eF.p).length<=30:=by
  rw[cO];refine cS (List.length_filter_le ..) ?_;have:=S.Jv.sz
  rwa [cO]at this
 have ap:∀{o:az},cF (.d (.list (((xV fs nm).map eF.p).map pr))) (.d (.list [.tup [.bytes nm,rf s 0]])) o= .ok (.d (.list (((xV fs nm++[f]).map eF.p).map pr))) o:=λ{o}=>(Yr (by rw[cO];exact eG (oV lo 1) (by decide))).trans (by rw[fZ,fZ];rfl);refine⟨T3,_,_,J_,E3,s,f, ?_,S3,by rw[(cu _).length_eq];exact VX,eZ.mpr (iF _ (.head _)),rfl,rfl,λa b=>⟨λ⟨f',hf',h1,h2⟩=> ?_,λh=> ?_⟩⟩
 ·exact dH rfl (fh (o1:=O4 T3 R0) (v:= .d (rf s 0)) (aA (iX (au (aj rfl rfl) (cL (os:=[]) (ZO (n:=n+7) S.hm) rfl rfl rfl rfl))) (aA (asg (i6 (jB (au (aj rfl rfl) (cL (os:=[]) (V6 (n:=n+1) S.hm S.Jv) rfl rfl rfl rfl)) (congrArg some (dB (f:=pr) (g:=V.d) (l:=fs.map eF.p)))) cm))
   (aA (asg (aL rfl rfl (aj (au (aj rfl (aj (aL rfl rfl (aj rfl rfl) (cL (os:=[]) (b1 (n+10) R0) rfl rfl rfl rfl)) rfl)) (cC (n:=n+10) f51 rfl rfl rfl rfl)) rfl) (cL (os:=[]) (b2 (n+10) R0) rfl rfl rfl rfl)))
   (aA (iX (au (aj rfl (aj (aN rfl (kF (aj (eH (aj rfl (aj rfl rfl)) rfl rfl) rfl) rfl rfl) ap) rfl)) (cL (os:=[]) e rfl rfl rfl rfl))) (bG (bZ rfl)))))) rfl rfl)
 ·rcases gU.mp (eZ.mp hf')with h |h
  ·exact .inr ⟨λq=>(gJ.mp h).2 (h1.trans q),f',(gJ.mp h).1,h1,h2⟩
  ·cases dQ.mp h;exact .inl ⟨h1.symm,h2.symm⟩
 ·clear ap lo cm VX S3 E3 J_ Zf ZG Zd Wy C2 RR H2 kE r3 r2 r1 yy e old sT b2 b1 hT2 g2 st l2 W2 a2 s0 hs hT1 g1 l1 W1 a1 t0 ht sz hd hw hnm S n T3 T2 T1;rcases h with⟨rfl,rfl⟩ |⟨h,f',h1,h2,h3⟩
  ·exact⟨f,eZ.mpr (iF _ (.head _)),rfl,rfl⟩
  ·exact⟨f',eZ.mpr (g6 _ (gJ.mpr ⟨h1,h2▸h⟩)),h2,h3⟩
end
section
variable{n k:Nat}{T R e:List (aG×D)}{i g:Int}{d_:Int->List (Int×Int)}{E:List (Int×Int)}{wy:lT}{tr:Option D}{gs fs:List eF}{ps:List NP}{o:az}{nm w dg:List UInt8}{d:D}
theorem UD(hl:fs.length<=30):a_ [4,5] (bH (af 2)) (aU 5) (aE gA (aB aC (af 5) (ai (.int 0))) (af 1)) (gu (af 5)) [] bh (some sh::some (.d (.bytes nm))::some (.d (.list ((fs.map eF.p).map pr)))::List.replicate 13 none) (O4 T R0)= .ok (.d (.list (((xV fs nm).map eF.p).map pr))) (O4 T R0):=by
 have cm:=gT (out:=bh) (acc:=[]) (pn:=none) (o:=O4 T R0) (mk:=λq:NP=>V.d (pr q)) (nx:=λq=>some (V.d (pr q))) (L:=λy=>some sh::some (.d (.bytes nm))::some (.d (.list ((fs.map eF.p).map pr)))::none::none::y::List.replicate 10 none) (bd:=aU 5) (t:=aE gA (aB aC (af 5) (ai (.int 0))) (af 1)) (e:=af 5) (p:=λq=> !decide (q.1=nm)) (f:=pr) (l:=fs.map eF.p) (y:=none) rfl (λx y=>rfl) (λx hx=>⟨aQ (aN rfl rfl rfl) rfl WY rfl,λZ=>rfl⟩) (by rw[nj,jQ,cO];exact eG hl (by decide));rw[MD]at cm;exact i6 (jB rfl (congrArg some (dB (f:=pr) (g:=V.d) (l:=fs.map eF.p)))) cm
theorem SK(h3:loc[3]? =some (some (.d (.list a))))(h2:loc[2]? =some (some (.d (.list c))))(ha:a.length < 1000000)(hc:c.length < 1000000)(hb:decide (a.length=c.length)=b):aE gi (aq (bB dj) (aa (af 3) ak)) (aq (bB dj) (aa (af 2) ak)) loc o= .ok b o:=by
 refine aQ (au (aj (show af 3 loc o= .ok (.d (.list a)) o from by unfold af;rw[h3]) rfl) (yV ha)) (au (aj (show af 2 loc o= .ok (.d (.list c)) o from by unfold af;rw[h2]) rfl) (yV hc)) eqI ?_;show aR.ok (decide ((a.length:Int)=(c.length:Int))) o=_;rw[show decide ((a.length:Int)=(c.length:Int))=decide (a.length=c.length)from vS.mpr Int.ofNat_inj,hb]
inductive XW(n:Nat)(T:List (aG×D))(wy:lT)(fs:List eF)(nm:List UInt8):Prop
 |mk (T2 RJ Ak jU E2) (_:fn 53 (run (n+11)) [sh, .d (.bytes nm)] (O4 T R0)= .ok (.d .none) (O4 T2 R0)) (_:IP T2 (Mv wy) RJ Ak jU E2) (_:T2.length<=2 * Ak.length+4) (_:∀a b,qH Ak a b↔a≠nm/\qH fs a b)
theorem f53(S:IP T wy tr fs d_ E)(hh:∃f ∈ fs,f.nm=nm):XW n T wy fs nm:=by
 have hl:fs.length<=30:=by have:=S.Jv.sz;rwa [cO]at this
 have lo:(xV fs nm).length<=30:=cS (List.length_filter_le ..) hl;obtain⟨T3,J_,E3,e,S3,VX⟩:=SX (n:=n) (gs:=xV fs nm) S.wt (cS S.sz (by decide)) S.hm S.wr S.ch S.no (Ga S.nd) (λf hf=>S.n5 f (gJ.mp hf).1) (λf hf=>S.fl f (gJ.mp hf).1) (λi h=>(S.ky i h).imp id .inl) S.tl;have lt:(xV fs nm).length≠fs.length:=λq=>by
  obtain⟨f,hf,hn⟩:=hh;have:=(rL.eq_of_length q:xV fs nm=fs);exact(gJ.mp (this▸hf)).2 hn
 refine⟨T3,_,_,J_,E3, ?_,S3,by rw[(cu _).length_eq];exact VX,λa b=>⟨λ⟨f,hf,h1,h2⟩=> ?_,λ⟨h,f,h1,h2,h3⟩=>⟨f,eZ.mpr (gJ.mpr ⟨h1,h2▸h⟩),h2,h3⟩⟩⟩
 ·exact dH rfl (xh (o1:=O4 T3 R0) (aA (asg (au (aj rfl rfl) (cL (os:=[]) (V6 (n:=n+1) S.hm S.Jv) rfl rfl rfl rfl))) (aA (asg (UD hl)) (aA (ez (SK (b:=false) rfl rfl (by rw[cO,cO];exact eG lo (by decide)) (by rw[cO,cO];exact eG hl (by decide)) (by rw[cO,cO,cO,cO];exact fM lt)) rfl) (aA (iX (au (aj rfl (aj rfl rfl)) (cL (os:=[]) e rfl rfl rfl rfl))) rfl)))) rfl rfl)
 ·have hf:=gJ.mp (eZ.mp hf);exact⟨λq=>hf.2 (h1.trans q),f,hf.1,h1,h2⟩
theorem XU(S:IP T wy tr fs d_ E)(hh:∀f ∈ fs,f.nm≠nm):fn 53 (run (n+11)) [sh, .d (.bytes nm)] (O4 T R0)= .exc .tree (O4 T R0):=by
 have hl:fs.length<=30:=by have:=S.Jv.sz;rwa [cO]at this
 have e:xV fs nm=fs:=List.filter_eq_self.mpr λf hf=>by rw[fM (hh f hf)];rfl
 have c:=UD (T:=T) (nm:=nm) hl;rw[e]at c;have l1:((fs.map eF.p).map pr).length < 1000000:=by rw[cO,cO];exact eG hl (by decide)
 exact dH rfl (Lj (DN (asg (au (aj rfl rfl) (cL (os:=[]) (V6 (n:=n+1) S.hm S.Jv) rfl rfl rfl rfl))) (DN (asg c) (AM (ly (SK (b:=true) rfl rfl l1 l1 (cM rfl)) (AM rfl))))) rfl rfl)
noncomputable abbrev tR:D:= .tup [.str "dict", .tup [.str "Root", .tup [.str "ref", .int 70, .int 2]]]
theorem RL:fn 2 (run (n+5)) [.h 2] [.tab 0, .tab 1, .dict .ks R0]= .ok (.d tR) [.tab 0, .tab 1, .dict .ks R0]:=by kernel_rfl
theorem NG:run (n+6) 2 [.h 3] (O4 T R0)= .ok (.d tR) (O4 T R0):=bu (RL (n:=n)) rfl rfl rfl rfl rfl
theorem HY(hm:3<=m):jM m tR tR=some true:=by
 obtain⟨m,rfl⟩:∃k,m=k+3:=⟨m - 3,by exact Zi ‹_›⟩;refine fX λz hz=> ?_;rcases cN.mp hz with rfl |hz
 ·exact iC
 ·cases dQ.mp hz;refine fX λz hz=> ?_;rcases cN.mp hz with rfl |hz
  ·exact iC
  ·cases dQ.mp hz;refine fX λz hz=> ?_;rcases cN.mp hz with rfl |hz
   ·exact iC
   ·rcases cN.mp hz with rfl |hz
    ·exact ji
    ·cases dQ.mp hz;exact ji
inductive XI(T:List (aG×D)):Prop
 |mk (t) (_:(∀n,fn 71 (run (n+10)) [sh] (O4 T R0)= .ok (.d t) (O4 T R0))) (_:∀m,20<=m->jM m t t=some true)
theorem ZK(W:WT T)(tl:IK T):XI T:=by
 obtain⟨U,eU,nU,hU⟩:=vh W;have ei:T.all (λp=>(cQ p.1).int?.isSome)=true:=cZ.mpr λp hp=>by obtain⟨i,g,d,rfl⟩:=W.en p hp;rfl
 have lU:U.length < 900000:=by
  have:=congrArg List.length eU;unfold Ky at this;rw[cO,(cu _).length_eq,cO]at this;rw[<-this];exact d9 W.sz (by decide)
 obtain⟨f,hf⟩:=Classical.axiomOfChoice (r:=λ(i:Int)(r:D)=>i ∈ U->∃g e t,r= .tup [.int i, .int g,t]/\aJ T (.int i)=some (fK g e)/\(∀n os,os.all aH.aY=true->run (n+9) 2 [.d e] (.tab 0:: .tab 1::os)= .ok (.d t) (.tab 0:: .tab 1::os))/\∀m,16<=m->jM m t t=some true) λi=>by
  by_cases hi:i ∈ U
  ·obtain⟨d,hd⟩:=(hU i).mp hi;obtain⟨g,e,rfl⟩:=W.at hd;obtain⟨t,a,b⟩:=c2 (tl i g e hd);exact⟨_,λZ=>⟨g,e,t,rfl,hd,a,b⟩⟩
  ·exact⟨.none,λq=>absurd q hi⟩
 refine⟨.tup [.tup (U.map f),tR],λn=> ?_,λm hm=> ?_⟩
 ·have g1:=fQ (out:=bh) (pn:=none) (o:=O4 T R0) (mk:=λi:Int=>V.d (.int i)) (nx:=λi=>some (V.d (.int i))) (Lo:=λy=>some sh::none::none::y::List.replicate 10 none) (bd:=aU 3)
   (e:=cB (aa (af 3) (aa (aB aC (aB aC (bq "table" (af 0)) (af 3)) (ai (.int 0))) (aa (aq (run (n+10) 2) (aa (aB aC (aB aC (bq "table" (af 0)) (af 3)) (ai (.int 1))) ak)) ak)))) (f:=f) (l:=U) (y:=none) rfl (λx y=>rfl) (λi hi=>by
    refine cps λPP kk=> ?_;obtain⟨g,e,t,h1,h2,h3,h4⟩:=hf i hi;refine kk ?_;clear kk;rw[h1];exact eH (aj rfl (aj (aN (aN (di rfl rfl) rfl (G8 rfl h2)) rfl rfl) (aj (au (aj (aN (aN (di rfl rfl) rfl (G8 rfl h2)) rfl rfl) rfl) (h3 (n+1) _ rfl)) rfl))) rfl rfl) (d9 lU (by decide))
  exact dH rfl (fE (aA (asg (au (aj (i6 (jB (aL rfl rfl rfl (cL (os:=[]) (ZL (Nat.ble_eq_true_of_le (d9 W.sz (by decide))) ei) rfl rfl rfl rfl)) (by rw[eU];exact congrArg some (dB (f:=D.int) (g:=V.d) (l:=U)))) g1) rfl) (JV (by rw[cO];exact d9 lU (by decide))))) (bG (bZ (eH (aj rfl (aj (au (aj (di rfl rfl) rfl) (NG (n:=n+4))) rfl)) rfl rfl)))) rfl)
 ·obtain⟨m,rfl⟩:∃k,m=k+3:=⟨m - 3,by exact SA ‹_› rfl⟩;refine fX λx hx=> ?_;rcases cN.mp hx with rfl |hx
  ·refine fX λy hy=> ?_;obtain⟨i,hi,rfl⟩:=mM hy;obtain⟨g,e,t,h1,h2,h3,h4⟩:=hf i hi;rw[h1];clear h3 h1;obtain⟨m,rfl⟩:∃k,m=k+1:=⟨m - 1,by exact Zi (yP hm rfl)⟩;refine fX λz hz=> ?_;rcases cN.mp hz with rfl |hz
   ·exact ji
   ·rcases cN.mp hz with rfl |hz
    ·exact ji
    ·cases dQ.mp hz;exact h4 _ (by exact yP ‹_› rfl)
  ·cases dQ.mp hx;exact HY (by exact cS (yP hm rfl:3<=m) (fN m 2))
end
structure Wd(K:List (aG×D))(fs:List eF):Prop where
 nd:(K.map (λZ=>Z.1)).Nodup
 kb:∀p ∈ K,∃a b,p=(.bytes a, .bytes b)/\qH fs a b
 hk:∀a b,qH fs a b->(aG.bytes a,D.bytes b) ∈ K
section
variable{n k m:Nat}{T R e K:List (aG×D)}{i g:Int}{d_:Int->List (Int×Int)}{E:List (Int×Int)}{wy:lT}{tr:Option D}{gs fs:List eF}{ps:List NP}{o os:az}{nm w dg:List UInt8}{d:D}{v:V}{l:List D}{ds:Bool}
theorem CZ(h:∀x ∈ l,jM m x x=some true):jM (m+1) (.list l) (.list l)=some true:=by
 have z:∀l:List D,(∀x ∈ l,jM m x x=some true)->iz (jM m) l l=some true:=λl h=>by
  induction l with
  |nil=>rfl
  |cons a l ih=>
   show(jM m a a).bind _=_;rw[h a (.head _)];show(iz (jM m) l l).map _=_;rw[ih λx hx=>h x (.tail _ hx)];rfl
 show(if l.length=l.length then iz (jM m) l l else some false)=_;rw[bw rfl,z l h]
theorem Rk(h:jM 30 d d=some true):gA (.d d) (.d d) o= .ok (.d (.bool false)) o:=by
 unfold gA Ii;show bx (match jM 30 d d with |some r=>some r |none=>_) _=_;rw[h];rfl
theorem C0{L:List (List UInt8)}:jM 30 (.list (L.map .bytes)) (.list (L.map .bytes))=some true:=CZ λx hx=>by obtain⟨b,_,rfl⟩:=mM hx;exact xy
theorem Wd.perm(W:Wd K fs)(nd:(fs.map (λZ=>Z.nm)).Nodup):((fs.map (λZ=>Z.nm)).map D.bytes).Perm (K.map λp=>cQ p.1):=by
 refine(List.perm_ext_iff_of_nodup ?_ ?_).mpr λa=> ?_
 ·exact lR.mpr (nd.imp λh e=>h (D.bytes.inj e))
 ·refine lR.mpr ((lR.mp W.nd).imp_of_mem λ{x y} hx hy h e=>h ?_);obtain⟨a,b,rfl,_⟩:=W.kb x hx;clear h;obtain⟨c,f,rfl,_⟩:=W.kb y hy;exact congrArg aG.bytes (D.bytes.inj e)
 ·constructor
  ·intro h;obtain⟨x,hx,rfl⟩:=mM h;clear h;obtain⟨f,hf,rfl⟩:=mM hx;exact cX.mpr ⟨_,W.hk f.nm f.w ⟨f,hf,rfl,rfl⟩,rfl⟩
  ·intro h;obtain⟨p,hp,rfl⟩:=mM h;clear h;obtain⟨a,b,rfl,f,hf,rfl,rfl⟩:=W.kb p hp;exact cX.mpr ⟨_,cX.mpr ⟨f,hf,rfl⟩,rfl⟩
theorem Wd.len(W:Wd K fs)(nd:(fs.map (λZ=>Z.nm)).Nodup):K.length=fs.length:=by
 have:=(W.perm nd).length_eq;rw[cO,cO,cO]at this;exact this.symm
theorem Wd.sorted(W:Wd K fs)(nd:(fs.map (λZ=>Z.nm)).Nodup)(so:fs.Pairwise λa b=>cP.blt b.nm a.nm=false)(hl:fs.length<=5)(h:bU o v=none)(h2:cH o v=some (.kb,K)):c_ v o= .ok (.d (.list ((fs.map (λZ=>Z.nm)).map .bytes))) o:=by
 have P:=W.perm nd;have hk:∀d ∈ K.map (λp=>cQ p.1),∃b,d= .bytes b:=λd hd=>by
  obtain⟨x,_,rfl⟩:=mM (P.mem_iff.mpr hd);exact⟨x,rfl⟩
 have e:(fs.map (λZ=>Z.nm)).map .bytes=gH (Aj qN.κ qN.key) (K.map λp=>cQ p.1):=Cc (λa ha b hb q=>by
  obtain⟨x,rfl⟩:=hk a ha;obtain⟨y,rfl⟩:=hk b hb;exact congrArg D.bytes q) P (lR.mpr (lR.mpr so))
 have lK:(K.map λp=>cQ p.1).length=fs.length:=by rw[cO];exact W.len nd
 unfold c_;rw[h];show bx (cH o v) _=_;rw[h2];show jf (K.map λp=>cQ p.1) o=_;rw[e];generalize(K.map λp=>cQ p.1)=L at hk lK;unfold jf;rw[show Nat.blt L.length 64=true from Nat.blt_eq.mpr (by exact KJ ‹_› ‹_› rfl)];cases L with
 |nil=>rfl
 |cons a r=>
  clear lK;obtain⟨b,rfl⟩:=hk a (.head _);have c:(D.bytes b::r).all (λd=>d.pQ.isSome)=true:=cZ.mpr λd hd=>by obtain⟨x,rfl⟩:=hk d hd;rfl
  show bz ((D.bytes b::r).all λd=>d.pQ.isSome) _=_;rw[c];rfl
theorem Up:eW (dG (fz .dict (af 1))) (aq (bB (gw false (.dict .ks []))) (aa (a_ [4,5] (bH (af 1)) (aU 5) (aE gA (af 5) (ai (.str "EmbeddedFiles"))) (gu (cB (aa (af 5) (aa (aB aC (af 1) (af 5)) ak)))) [] bh) ak)) (dh false (.dict .ks [])) (some sh::some (.d (.dict .ks (Nl ds tr)))::List.replicate 14 none) (O4 T R0)= .ok (.d (.dict .ks (Nl ds none))) (O4 T R0):=by cases ds<;>cases tr<;>kernel_rfl
theorem Uo:eW (dG (fz .dict (af 1))) (aq (bB (gw false (.dict .ks []))) (aa (a_ [4,5] (bH (af 1)) (aU 5) (aE gA (af 5) (ai (.str "EmbeddedFiles"))) (gu (cB (aa (af 5) (aa (aB aC (af 1) (af 5)) ak)))) [] bh) ak)) (dh false (.dict .ks [])) (some sh::some (.d .none)::List.replicate 14 none) (O4 T R0)= .ok (.d (.dict .ks (Nl false none))) (O4 T R0):=by kernel_rfl
theorem HC:Jy wy tr=Bl\/∃x,Jy wy tr=w_ x:=by cases wy<;>first |exact .inl rfl |exact .inr ⟨_,rfl⟩
theorem Nr(H:Hm T wy tr):aq (bB (gw false (.dict .ks []))) (aa (a_ [4,5] (bH (aO aI (run (n+9) 70) (af 0) ak)) (aU 5) (aE gA (af 5) (ai (.str "Names"))) (gu (cB (aa (af 5) (aa (aB aC (aO aI (run (n+9) 70) (af 0) ak) (af 5)) ak)))) [] bh) ak) (some sh::a1::a2::List.replicate 13 none) (O4 T R0)= .ok (.d (.dict .ks Bl)) (O4 T R0):=by
 have c:=H.JC (n:=n+6);have y1:∀{o:az},gA (.d (.str "Type")) (.d (.str "Names")) o= .ok (.d (.bool true)) o:=λ{o}=>by kernel_rfl
 have y2:∀{o:az},gA (.d (.str "Lang")) (.d (.str "Names")) o= .ok (.d (.bool true)) o:=λ{o}=>by kernel_rfl
 have iP:∀{o:az},gw false (.dict .ks []) (.d (.list [.tup [.str "Type",wL "Catalog"], .tup [.str "Lang",e8 [101,110]]])) o= .ok (.d (.dict .ks Bl)) o:=λ{o}=>by kernel_rfl
 have go:∀(l:List (aG×D))(p:aG×D->Bool),run (n+9) 70 [sh] (O4 T R0)= .ok (.d (.dict .ks l)) (O4 T R0)->(∀q ∈ l,gA (.d (cQ q.1)) (.d (.str "Names")) (O4 T R0)= .ok (.d (.bool (p q))) (O4 T R0)/\aC (.d (.dict .ks l)) (.d (cQ q.1)) (O4 T R0)= .ok (.d q.2) (O4 T R0))->l.length < 10->(l.filter p).map (λq=>D.tup [cQ q.1,q.2])=[.tup [.str "Type",wL "Catalog"], .tup [.str "Lang",e8 [101,110]]]->
   aq (bB (gw false (.dict .ks []))) (aa (a_ [4,5] (bH (aO aI (run (n+9) 70) (af 0) ak)) (aU 5) (aE gA (af 5) (ai (.str "Names"))) (gu (cB (aa (af 5) (aa (aB aC (aO aI (run (n+9) 70) (af 0) ak) (af 5)) ak)))) [] bh) ak) (some sh::a1::a2::List.replicate 13 none) (O4 T R0)= .ok (.d (.dict .ks Bl)) (O4 T R0):=λl p hc hs hl hf=>by
  have cm:=gT (out:=bh) (acc:=[]) (pn:=none) (o:=O4 T R0) (mk:=λq:aG×D=>V.d (cQ q.1)) (nx:=λq=>some (V.d (cQ q.1))) (L:=λy=>some sh::a1::a2::none::none::y::List.replicate 10 none) (bd:=aU 5) (t:=aE gA (af 5) (ai (.str "Names"))) (e:=cB (aa (af 5) (aa (aB aC (aO aI (run (n+9) 70) (af 0) ak) (af 5)) ak))) (p:=p) (f:=λq=> .tup [cQ q.1,q.2]) (l:=l) (y:=none) rfl (λx y=>rfl) (λq hq=>⟨aQ rfl rfl (hs q hq).1 rfl,λZ=>eH (aj rfl (aj (aN (aL rfl rfl rfl hc) rfl (hs q hq).2) rfl)) rfl rfl⟩) (by rw[nj,jQ];exact qq ‹_› rfl);rw[List.nil_append,hf]at cm;exact au (aj (i6 (jB (aL rfl rfl rfl hc) rfl) cm) rfl) iP
 rcases HC (wy:=wy) (tr:=tr)with q |⟨x,q⟩
 ·rw[q]at c;exact go Bl (λZ=>true) c (λq hq=>by
   rcases cN.mp hq with rfl |hq
   ·exact⟨y1,by kernel_rfl⟩
   ·cases dQ.mp hq;exact⟨y2,by kernel_rfl⟩) (by decide) rfl
 ·rw[q]at c;exact go (w_ x) (λq=>match q.1 with | .str s=> !decide (s="Names") |_=>true) c (λq hq=>by
   rcases cN.mp hq with rfl |hq
   ·exact⟨by kernel_rfl,by kernel_rfl⟩
   ·rcases cN.mp hq with rfl |hq
    ·exact⟨by kernel_rfl,by kernel_rfl⟩
    ·cases dQ.mp hq;exact⟨by kernel_rfl,by kernel_rfl⟩) (show 3 < 10 by decide) (by kernel_rfl)
theorem f61:∃rest:Bool->D,(∀(T:List (aG×D))(wy:lT)(tr:Option D),Hm T wy tr->∀n,fn 61 (run (n+9)) [sh] (O4 T R0)= .ok (.d (rest wy.ds)) (O4 T R0))/\∀b m,20<=m->jM m (rest b) (rest b)=some true:=by
 obtain⟨tT,aT,bT⟩:=c2 (wI (ds:=true)).tl;obtain⟨tF,aF,bF⟩:=c2 (wI (ds:=false)).tl;obtain⟨t2,a2,b2⟩:=c2 MG.tl;obtain⟨t3,a3,b3⟩:=c2 Gq.tl;refine⟨λb=> .tup [if b=true then tT else tF,t2,tR,t3, .int 2],λT wy tr H n=> ?_,λb m hm=> ?_⟩
 ·have a1:∀n,run (n+5) 2 [.d (.dict .ks (Nl wy.ds none))] (O4 T R0)= .ok (.d (if wy.ds=true then tT else tF)) (O4 T R0):=λn=>by cases wy.ds;exact aF n _ rfl;exact aT n _ rfl
  have i40:∀{a b c:Option V},aB aC (aB aC (bq "table" (af 0)) (ai (.int 40))) (ai (.int 1)) (some sh::a::b::c::List.replicate 12 none) (O4 T R0)= .ok (.d (.list [.int 1, .int 2])) (O4 T R0):=λ{a b c}=>aN (aN (di rfl rfl) rfl (G8 rfl H.j)) rfl rfl;have i70:∀{a b c:Option V},aB aC (aB aC (bq "table" (af 0)) (ai (.int 70))) (ai (.int 0)) (some sh::a::b::c::List.replicate 12 none) (O4 T R0)= .ok (.d (.int 2)) (O4 T R0):=λ{a b c}=>aN (aN (di rfl rfl) rfl (G8 rfl H.r)) rfl rfl;have ret:∀{a:Option V},aX (cB (aa (aq (run (n+9) 2) (aa (af 2) ak)) (aa (aq (run (n+9) 2) (aa (af 3) ak)) (aa (aq (run (n+9) 2) (aa (bq "trailer" (af 0)) ak)) (aa (aq (run (n+9) 2) (aa (aB aC (aB aC (bq "table" (af 0)) (ai (.int 40))) (ai (.int 1))) ak)) (aa (aB aC (aB aC (bq "table" (af 0)) (ai (.int 70))) (ai (.int 0))) ak)))))) (some sh::a::some (.d (.dict .ks (Nl wy.ds none)))::some (.d (.dict .ks Bl))::List.replicate 12 none) (O4 T R0)= .ok (.ret (.d (.tup [if wy.ds=true then tT else tF,t2,tR,t3, .int 2]))) (O4 T R0):=λ{a}=>
   bZ (eH (aj (au (aj rfl rfl) (a1 (n+4))) (aj (au (aj rfl rfl) (a2 (n+6) _ rfl)) (aj (au (aj (di rfl rfl) rfl) (NG (n:=n+3))) (aj (au (aj i40 rfl) (a3 (n+6) _ rfl)) (aj i70 rfl))))) rfl rfl)
  clear a1;rcases H.nms with⟨rfl,h⟩ |⟨_,h⟩
  ·have h0:q_ T 0 (Ri .no tr) .none:=h▸ .here λZ=>rfl;exact dH rfl (fE (aA (asg (aL rfl rfl (aj (aL rfl rfl rfl (H.JC (n:=n+6))) (aj rfl rfl)) (cL (os:=[]) (HU (n:=n+7) rfl sJ h0 (by decide)) rfl rfl rfl rfl))) (aA (asg Uo) (aA (asg (Nr H)) (bG ret)))) rfl)
  ·exact dH rfl (fE (aA (asg (aL rfl rfl (aj (aL rfl rfl rfl (H.JC (n:=n+6))) (aj rfl rfl)) (cL (os:=[]) (HU (n:=n+7) rfl sJ h (by decide)) rfl rfl rfl rfl))) (aA (asg Up) (aA (asg (Nr H)) (bG ret)))) rfl)
 ·obtain⟨m,rfl⟩:∃k,m=k+1:=⟨m - 1,by exact SA ‹_› rfl⟩;refine fX λx hx=> ?_;rcases cN.mp hx with rfl |hx
  ·cases b;exact bF _ (by exact yP ‹_› rfl);exact bT _ (by exact yP ‹_› rfl)
  rcases cN.mp hx with rfl |hx
  ·exact b2 _ (by exact yP ‹_› rfl)
  rcases cN.mp hx with rfl |hx
  ·exact HY (by exact yP ‹_› rfl)
  rcases cN.mp hx with rfl |hx
  ·exact b3 _ (by exact yP ‹_› rfl)
  ·cases dQ.mp hx;exact ji
end
theorem CC(h:n < 2):n=0\/n=1:=by revert n;decide
theorem KO(h:n < 3):n=0\/n=1\/n=2:=by revert n;decide
theorem KN(h:n < 4):n=0\/n=1\/n=2\/n=3:=by revert n;decide
theorem lt5(h:n < 5):n=0\/n=1\/n=2\/n=3\/n=4:=by revert n;decide
inductive W3:List UInt8->Prop
 |n:W3 []
 |a (x:UInt8):W3 [x]
 |b (x y:UInt8):W3 [x,y]
 |c (x y z:UInt8):W3 [x,y,z]
theorem Pw(h:w.length<=3):W3 w:=by
 rcases w with _ |⟨x,_ |⟨y,_ |⟨z,_ |⟨_,_⟩⟩⟩⟩
 ·exact .n
 ·exact .a _
 ·exact .b _ _
 ·exact .c _ _ _
 ·exact absurd h (Nat.not_le.mpr (uq 4 _))
noncomputable abbrev pV(T K:List (aG×D)):az:= .tab 0:: .tab 1:: .dict .ki T:: .dict .ks R0::[.dict .kb K]
noncomputable abbrev Wh(T K:List (aG×D)):az:= .tab 0:: .tab 1:: .dict .ki T:: .dict .ks R0::[.pin (.dict .kb K)]
noncomputable def sG(T:List (aG×D)):D->D
 | .inst .reference [.int n,_]=>match aJ T (.int n)with |some (.tup [_,e])=>e |_=> .none
 |_=> .none
noncomputable abbrev Wg(rest:Bool->D):Prop:=(∀(T:List (aG×D))(wy:lT)(tr:Option D),Hm T wy tr->∀n,fn 61 (run (n+9)) [sh] (O4 T R0)= .ok (.d (rest wy.ds)) (O4 T R0))/\∀b m,20<=m->jM m (rest b) (rest b)=some true
section
variable{n k m:Nat}{T R e K:List (aG×D)}{i g:Int}{d_:Int->List (Int×Int)}{E:List (Int×Int)}{wy:lT}{tr:Option D}{gs fs:List eF}{ps:List NP}{o os:az}{nm w dg:List UInt8}{d:D}{v:V}{l:List D}{ds:Bool}{rest:Bool->D}{tn:Bool}{f:eF}
theorem JH.sG(F:JH T d_ f):sG T (rf f.s 0)=f.sp:=by
 show(match aJ T (.int f.s)with |some (.tup [_,e])=>e |_=>D.none)=_;rw[F.ks]
theorem JH.ff(F:JH T d_ f):q_ T 1 (rf f.s 0) f.sp:= .go F.ks (.here λZ=>rfl)
theorem JH.ft(F:JH T d_ f):q_ T 1 (rf f.t 0) f.st:= .go F.kt (.here λZ=>rfl)
theorem Us(S:IP T wy tr fs d_ E):fn 40 (run (n+10)) [sh] (O4 T R0)= .ok (.d (.list (fs.map λf=> .tup [.bytes f.nm,sG T (rf f.s 0)]))) (O4 T R0):=by
 have:=f40 (n:=n) (g:=λp=>sG T p.2) S.hm S.Jv λp hp=>by
  obtain⟨f,hf,rfl⟩:=mM hp;show q_ T 1 (rf f.s 0) (Mine.sG T (rf f.s 0));rw[(S.fl f hf).sG];exact(S.fl f hf).ff
 rw[dB]at this;exact this
theorem fq{x:aG}:∀{K:List (aG×D)},(K.map (λZ=>Z.1)).Nodup->(x,d) ∈ K->aJ K x=some d
 |p::K,nd,h=>by
  obtain⟨n1,n2⟩:=fU.mp nd;rw[cT];rcases cN.mp h with rfl |h
  ·exact bw rfl
  ·rw[aZ λq=>n1 (cX.mpr ⟨_,h,q.symm⟩)];exact fq n2 h
theorem W5:∀k:Nat,k < 6->om 2 (k:Int)=true:=by decide+kernel
theorem SI{Q:List Int}(nd:Q.Nodup)(h:∀i,i ∈ Q↔i=40):Q=[40]:=List.perm_singleton.mp ((List.perm_ext_iff_of_nodup nd (by decide)).mpr λa=>(h a).trans dQ.symm)
theorem f62(S:IP T wy tr fs d_ E)(W:Wd K fs)(Z:Wg rest)(ht:tn=true->T.length<=2 * fs.length+6):fn 62 (run (n+12)) [sh, .h 4, .d (rest wy.ds), .d (.bool tn)] (pV T K)= .ok (.d (.bool true)) (pV T K):=by
 have l5:=GS S.nd S.n5;have lK:K.length=fs.length:=W.len S.nd;have srt:∀{v:V}{o:az},bU o v=none->cH o v=some (.kb,K)->c_ v o= .ok (.d (.list ((fs.map (λZ=>Z.nm)).map .bytes))) o:=λh h2=>W.sorted S.nd S.so l5 h h2;have ca:aE gA (a_ [4,5,6] (bH (aq (run (n+12) 40) (aa (af 0) ak))) (jE [5,6]) bN (gu (af 5)) [] bh) (aq (bB c_) (aa (af 1) ak)) (some sh::some (.h 4)::some (.d (rest wy.ds))::some (.d (.bool tn))::List.replicate 12 none) (pV T K)= .ok false (pV T K):=by
  have c:=fQ (out:=bh) (pn:=none) (o:=pV T K) (mk:=λf:eF=>V.d (.tup [.bytes f.nm,sG T (rf f.s 0)])) (nx:=λf=>(some (V.d (.bytes f.nm)),some (V.d (sG T (rf f.s 0))))) (Lo:=λy:Option V×Option V=>some sh::some (.h 4)::some (.d (rest wy.ds))::some (.d (.bool tn))::none::y.1::y.2::List.replicate 9 none) (bd:=jE [5,6]) (e:=af 5) (f:=λf=> .bytes f.nm) (l:=fs) (y:=(none,none)) rfl (λx y=>rfl) (λq hq=>rfl) (by exact pA ‹_› rfl);rw[show fs.map (λf=>D.bytes f.nm)=(fs.map (λZ=>Z.nm)).map .bytes from dB.symm]at c;exact aQ (i6 (jB (au (aj rfl rfl) (cL (os:=[.dict .kb K]) (Us (n:=n+1) S) rfl rfl rfl rfl)) (congrArg some (dB (f:=λf:eF=>D.tup [.bytes f.nm,sG T (rf f.s 0)]) (g:=V.d) (l:=fs)))) c) (au (aj rfl rfl) (srt rfl rfl)) (Rk C0) rfl
 have cb:aE gA (aq (run (n+12) 9) (aa (af 0) ak)) (d8 false (aa (ai (.int 40)) ak)) (some sh::some (.h 4)::some (.d (rest wy.ds))::some (.d (.bool tn))::List.replicate 12 none) (pV T K)= .ok false (pV T K):=by
  obtain⟨Q,e,nd,h⟩:=Wt (n:=n+4) S.wt S.ch;have q:Q=[40]:=SI nd λi=>(h i).trans ⟨λu=>(S.ky i u.1).elim id λ⟨p,hp,e⟩=>absurd e (u.2 p hp),λe=>e▸⟨⟨_,S.hm.j⟩,S.no⟩⟩;rw[q]at e;exact aQ (au (aj rfl rfl) (cL (os:=[.dict .kb K]) e rfl rfl rfl rfl)) (kF rfl rfl rfl) (Rk (CZ λx hx=>by cases dQ.mp hx;exact ji)) rfl
 have cc:aE gA (aq (run (n+12) 61) (aa (af 0) ak)) (af 2) (some sh::some (.h 4)::some (.d (rest wy.ds))::some (.d (.bool tn))::List.replicate 12 none) (pV T K)= .ok false (pV T K):=
  aQ (au (aj rfl rfl) (cL (os:=[.dict .kb K]) (Z.1 T wy tr S.hm (n+2)) rfl rfl rfl rfl)) rfl (Rk (Z.2 _ _ (by decide))) rfl
 have ce:dw (gS (dG (af 3)) (gS (aE C3 (aq (bB dj) (aa (bq "table" (af 0)) ak)) (aB cF (aB iY (ai (.int 2)) (aq (bB dj) (aa (af 1) ak))) (ai (.int 6)))) bN)) (ao (aX (ai (.bool false))) av) av (some sh::some (.h 4)::some (.d (rest wy.ds))::some (.d (.bool tn))::List.replicate 12 none) (pV T K)= .ok (.next (some sh::some (.h 4)::some (.d (rest wy.ds))::some (.d (.bool tn))::List.replicate 12 none)) (pV T K):=by
  cases tn with
  |false=>exact ez (q8 (eO rfl rfl)) rfl
  |true=>
   have h:=ht rfl;have g1:dj (.h 2) (pV T K)= .ok (.d (.int (T.length:Int))) (pV T K):=by
    show bz (c6 T.length) _=_;rw[S.wt.c6];rfl
   have g2:dj (.h 4) (pV T K)= .ok (.d (.int (K.length:Int))) (pV T K):=by
    show bz (c6 K.length) _=_;rw[bR (by exact KJ ‹_› ‹_› rfl)];rfl
   have g3:iY (.d (.int 2)) (.d (.int (K.length:Int))) (pV T K)= .ok (.d (.int (2 * (K.length:Int)))) (pV T K):=by
    show bz (om 2 (K.length:Int)) _=_;rw[W5 _ (by exact KJ ‹_› ‹_› rfl)];rfl
   have g4:C3 (.d (.int (T.length:Int))) (.d (.int (2 * (K.length:Int)+6))) (pV T K)= .ok (.d (.bool false)) (pV T K):=by
    show l9 (decide ((2 * (K.length:Int)+6) < (T.length:Int))) _=_;rw[fM (by exact Int.not_lt.mpr (by rw[lK];exact pZ.mpr h))];rfl
   exact ez (oM (eO rfl rfl) (q8 (aQ (au (aj (di rfl rfl) rfl) g1) (aN (aN rfl (au (aj rfl rfl) g2) g3) rfl rfl) g4 rfl))) rfl
 have cf:a_ [4,5] (bH (af 1)) (aU 5) (aE gA (aq (run (n+12) 44) (aa (af 0) (aa (af 5) (aa (ai (.fn 0)) ak)))) (aB aC (af 1) (af 5))) (gu (af 5)) [] bh (some sh::some (.h 4)::some (.d (rest wy.ds))::some (.d (.bool tn))::List.replicate 12 none) (pV T K)= .ok (.d (.list [])) (pV T K):=by
  have cm:=gT (out:=bh) (acc:=[]) (pn:=some 4) (o:=Wh T K) (mk:=λq:aG×D=>V.d (cQ q.1)) (nx:=λq=>some (V.d (cQ q.1))) (L:=λy=>some sh::some (.h 4)::some (.d (rest wy.ds))::some (.d (.bool tn))::none::y::List.replicate 10 none) (bd:=aU 5) (t:=aE gA (aq (run (n+12) 44) (aa (af 0) (aa (af 5) (aa (ai (.fn 0)) ak)))) (aB aC (af 1) (af 5))) (e:=af 5) (p:=λU=>false) (f:=λq=>cQ q.1) (l:=K) (y:=none) rfl (λx y=>rfl) (λq hq=>⟨by
   obtain⟨a,b,rfl,f,hf,rfl,rfl⟩:=W.kb q hq;have F:=S.fl f hf;have i1:aC (.h 4) (.d (.bytes f.nm)) (Wh T K)= .ok (.d (.bytes f.w)) (Wh T K):=by
    show bx (aJ K (.bytes f.nm)) _=_;rw[fq W.nd hq];rfl
   exact aQ (au (aj rfl (aj rfl (aj rfl rfl))) (cL (os:=[.pin (.dict .kb K)]) (f44 (n:=n) (p:=f.p) S.hm S.Jv (by rw[dB];exact S.nd) (cX.mpr ⟨f,hf,rfl⟩) F.ff F.ft (eG F.wl (by decide)) F.dg) rfl rfl rfl rfl)) (aN rfl rfl i1) WZ rfl,λh=>by cases h⟩) (by rw[nj,jQ];exact KJ ‹_› ‹_› rfl)
  rw[show K.filter (λU=>false)=[]from List.filter_eq_nil_iff.mpr λa U=>by decide]at cm;exact i6 (o1:=Wh T K) (gj (y:= .h 4) (o:=pV T K) rfl rfl) cm
 exact dH rfl (fh (o1:=pV T K) (v:= .d (.bool true)) (aA (ez (wG ca (wG cb (wG cc rfl))) rfl) (aA ce (bG (bZ (aN cf (kF rfl rfl rfl) rfl))))) rfl rfl)
end
noncomputable def oN:List Int:=[3614090360,3905402710,606105819,3250441966,4118548399,1200080426,2821735955,4249261313,1770035416,2336552879,4294925233,2304563134,1804603682,4254626195,2792965006,1236535329,4129170786,3225465664,643717713,3921069994,3593408605,38016083,3634488961,3889429448,568446438,3275163606,4107603335,1163531501,2850285829,4243563512,1735328473,2368359562,4294588738,2272392833,1839030562,4259657740,2763975236,1272893353,4139469664,3200236656,681279174,3936430074,3572445317,76029189,3654602809,3873151461,530742520,3299628645,4096336452,1126891415,2878612391,4237533241,1700485571,2399980690,4293915773,2240044497,1873313359,4264355552,2734768916,1309151649,4149444226,3174756917,718787259,3951481745]
noncomputable abbrev Yx(x:Int):Prop:=0<=x/\x < 4294967296
section
variable{n k m:Nat}{o os:az}{d:D}{v:V}{l:List D}{a b c x y z s:Int}{w:List UInt8}{ws:List Int}
theorem f11:fn 11 (run (n+1)) [] O2= .ok (.d (.list (oN.map .int))) O2:=by kernel_rfl
theorem w32:Yx (x.fmod 4294967296):=by rw[Int.fmod_eq_emod_of_nonneg _ (by decide)];exact⟨Int.emod_nonneg _ (by decide),Int.emod_lt_of_pos _ (by decide)⟩
theorem f16{MU:Nat}(h:MU < 4):∃r,∀n,fn 16 (run n) [.d (.int (MU:Int)), .d (.int x), .d (.int y), .d (.int z)] O2= .ok (.d (.int r)) O2:=by
 rcases KN h with rfl |rfl |rfl |rfl
 ·exact⟨_,λn=>by rfl⟩
 ·exact⟨_,λn=>by rfl⟩
 ·exact⟨_,λn=>by rfl⟩
 ·exact⟨_,λn=>by rfl⟩
theorem f17{MU:Nat}(h:MU < 4):∃r,∀n,fn 17 (run n) [.d (.int (MU:Int)), .d (.int s)] O2= .ok (.d (.int (Int.fmod r 16))) O2:=by
 rcases KN h with rfl |rfl |rfl |rfl
 ·exact⟨s,λn=>by kernel_rfl⟩
 ·exact⟨5 * s+1,λn=>by kernel_rfl⟩
 ·exact⟨3 * s+5,λn=>by kernel_rfl⟩
 ·exact⟨7 * s,λn=>by kernel_rfl⟩
theorem Qs(h:Yx x):Builtin.Int.intBits x<=32:=by
 unfold Builtin.Int.intBits;split
 ·decide
 ·rename_i q;have h0:x.natAbs≠0:=λe=>q (by rw[Int.natAbs_eq_zero.mp e];rfl);exact(Nat.log2_lt h0).mpr (by obtain⟨h1,h2⟩:=h;exact YV h1 h2)
theorem f18{r:Nat}(h:Yx x)(hr:r<=32):∃z,∀n,fn 18 (run n) [.d (.int x), .d (.int (r:Int))] O2= .ok (.d (.int z)) O2:=by
 have e1:Lw (.d (.int x)) (.d (.int (r:Int))) O2= .ok (.d (.int (x * 2 ^ r))) O2:=by
  show bz (decide ((0:Int)<=(r:Int)/\(Builtin.Int.intBits x:Int)+(r:Int)<=2 ^ 27)) _=_;rw[cM ⟨n6 _,by have:=Qs h;exact Int.le_trans (Int.add_le_add (pZ.mpr this) (pZ.mpr hr)) (by decide)⟩];rfl
 have e2:Lv (.d (.int x)) (.d (.int (32 - (r:Int)))) O2= .ok (.d (.int (x.fdiv (2 ^ (32 - (r:Int)).toNat)))) O2:=by
  show bz (decide ((0:Int)<=32 - (r:Int))) _=_;rw[cM (by exact Int.sub_nonneg_of_le (pZ.mpr hr))];rfl
 exact⟨_,λn=>dH rfl (fE (bG (bZ (aN (aN (aN rfl rfl e1) (aN rfl rfl rfl) rfl) (aN rfl (aN rfl rfl rfl) e2) rfl))) rfl)⟩
theorem TH(hl:ws.length < 1000000)(hi:i < ws.length):∃r,aC (.d (.list (ws.map .int))) (.d (.int (i:Int))) o= .ok (.d (.int r)) o:=⟨ws[i],uF (by rw[cO];exact hl) (by rw[gB,je hi];rfl)⟩
theorem xm(hk:0 < k)(x:Int):∃j:Nat,j < k/\x.fmod (k:Int)=(j:Int):=by
 rw[Int.fmod_eq_emod_of_nonneg _ (n6 _)];have h1:=Int.emod_lt_of_pos x (Int.natCast_pos.mpr hk);have h2:=Int.emod_nonneg x (show(k:Int)≠0 by exact Int.ne_of_gt (qX.mpr hk));exact⟨(x % (k:Int)).toNat,by exact(Int.toNat_lt h2).mpr h1,by exact(Int.toNat_of_nonneg h2).symm⟩
noncomputable abbrev trn:D:= .tup [.tup [.int 7, .int 12, .int 17, .int 22], .tup [.int 5, .int 9, .int 14, .int 20], .tup [.int 4, .int 11, .int 16, .int 23], .tup [.int 6, .int 10, .int 15, .int 21]]
theorem turn{MU j:Nat}(h:MU < 4)(hj:j < 4):∃t r,aC (.d trn) (.d (.int (MU:Int))) O2= .ok (.d t) O2/\aC (.d t) (.d (.int (j:Int))) O2= .ok (.d (.int ((r:Nat):Int))) O2/\r<=32:=by
 rcases KN h with rfl |rfl |rfl |rfl<;>rcases KN hj with rfl |rfl |rfl |rfl<;>exact⟨_,_,rfl,rfl,by decide⟩
noncomputable abbrev T4(a b c d:Int):D:= .tup [.int a, .int b, .int c, .int d]
theorem f19{a b c d e:Int}{s:Nat}(hs:s < 64)(hw:ws.length=16):∃b',∀n,fn 19 (run (n+1)) [.d (T4 a b c d), .d (.list (ws.map .int)), .d (.int (s:Int)), .d (.int e)] O2= .ok (.d (T4 d b' b c)) O2:=by
 have hl:s / 16 < 4:=by exact Nat.div_lt_of_lt_mul hs
 refine cps λPP kk=> ?_;obtain⟨r1,e1⟩:=f16 (x:=b) (y:=c) (z:=d) hl;obtain⟨r2,e2⟩:=f17 (s:=(s:Int)) hl;obtain⟨j,hj,ej⟩:=xm (k:=16) (by decide) r2;rw[show((16:Nat):Int)=16 from rfl]at ej;rw[ej]at e2;obtain⟨r3,e3⟩:=TH (o:=O2) (ws:=ws) (i:=j) (by rw[hw];decide) (by rw[hw];exact hj);obtain⟨q,hq,eq⟩:=xm (k:=4) (by decide) (s:Int);rw[show((4:Nat):Int)=4 from rfl]at eq;obtain⟨t,r,t1,t2,hr⟩:=turn hl hq;obtain⟨z,e4⟩:=f18 (x:=(a+r1+r3+e).fmod 4294967296) (r:=r) w32 hr;refine kk ?_;clear kk;have dv:j7 (.d (.int (s:Int))) (.d (.int 16)) O2= .ok (.d (.int ((s / 16:Nat):Int))) O2:=by
  show pU ((s:Int).fdiv 16) _=_;rw[Int.fdiv_eq_ediv_of_nonneg _ (by decide)];rfl
 have dm:jj (.d (.int (s:Int))) (.d (.int 4)) O2= .ok (.d (.int (q:Int))) O2:=by
  show pU ((s:Int).fmod 4) _=_;rw[eq];rfl
 exact⟨_,λn=>dH rfl (fE (aA (lW rfl rfl) (aA (asg (aN rfl rfl dv)) (aA (asg (aN (aN (aN (aN rfl (au (aj rfl (aj rfl (aj rfl (aj rfl rfl)))) (cC (e1 n) rfl rfl rfl rfl)) rfl) (aN rfl (au (aj rfl (aj rfl rfl)) (cC (e2 n) rfl rfl rfl rfl)) e3) rfl) rfl rfl) rfl rfl))
  (bG (bZ (eH (aj rfl (aj (aN (aN rfl (au (aj rfl (aj (aN (aN rfl rfl t1) (aN rfl rfl dm) t2) rfl)) (cC (e4 n) rfl rfl rfl rfl)) rfl) rfl rfl) (aj rfl (aj rfl rfl)))) rfl rfl)))))) rfl)⟩
end
noncomputable def uM(w:List UInt8):List UInt8:=w++[128]++List.replicate (55 - w.length) 0++[UInt8.ofNat (8 * w.length),0,0,0,0,0,0,0]
noncomputable def wd0:List UInt8->Int
 | []=>128
 | [a]=>(a.toNat:Int)+256 * (128+256 * (0+256 * 0))
 | [a,b]=>(a.toNat:Int)+256 * ((b.toNat:Int)+256 * (128+256 * 0))
 |a::b::c::_=>(a.toNat:Int)+256 * ((b.toNat:Int)+256 * ((c.toNat:Int)+256 * 128))
noncomputable abbrev Wo(w:List UInt8):List Int:=[wd0 w,0,0,0,0,0,0,0,0,0,0,0,0,0,(8 * w.length:Nat),0]
noncomputable def oq(x:Int):List UInt8:=vN (([0,1,2,3]:List Nat).map λj=>(x.fdiv (256 ^ j)).fmod 256)
section
variable{n k m:Nat}{o os:az}{d:D}{v:V}{l:List D}{a b c x y z s:Int}{w:List UInt8}{ws:List Int}
theorem f13(hl:w.length<=3):fn 13 (run (n+1)) [.d (.bytes w)] O2= .ok (.d (.bytes (uM w))) O2:=by
 cases Pw hl<;>kernel_rfl
theorem f15(hl:w.length<=3):fn 15 (run (n+1)) [.d (.bytes (uM w))] O2= .ok (.d (.list ((Wo w).map .int))) O2:=by
 cases Pw hl<;>kernel_rfl
theorem zz{N:List Int}(hN:N.length=64)(hw:ws.length=16):∀(js:List Nat){a b c d:Int}{y:Option V},(∀j ∈ js,j < 64)->∃a' b' c' d' y',∀n,jb none (aU 5) (M5 (run (n+2))) (js.map λj:Nat=>V.d (.int (0+1 * (j:Int)))) (q0::some (.d (.bytes B))::some (.d (.list (N.map .int)))::some (.d (.list (ws.map .int)))::some (.d (T4 a b c d))::y::tl) O2= .ok (.next (q0::some (.d (.bytes B))::some (.d (.list (N.map .int)))::some (.d (.list (ws.map .int)))::some (.d (T4 a' b' c' d'))::y'::tl)) O2
 | [],a,b,c,d,y,_=>⟨a,b,c,d,y,λn=>rfl⟩
 |j::js,a,b,c,d,y,h=>by
  have hj:=h j (.head _);have ej:(0+1 * (j:Int))=(j:Int):=by exact Zh
  refine cps λPP kk=> ?_;obtain⟨e,he⟩:=TH (o:=O2) (ws:=N) (i:=j) (by rw[hN];decide) (by rw[hN];exact hj);obtain⟨b',e1⟩:=f19 (a:=a) (b:=b) (c:=c) (d:=d) (e:=e) hj hw;obtain⟨a2,b2,c2,d2,y2,e2⟩:=zz hN (tl:=tl) (B:=B) (q0:=q0) hw js (a:=d) (b:=b') (c:=b) (d:=c) (y:=some (.d (.int (j:Int)))) λi hi=>h i (.tail _ hi);refine kk ?_;clear kk;refine⟨a2,b2,c2,d2,y2,λn=> ?_⟩;rw[qY,ej];exact fH rfl (aA (asg (au (aj rfl (aj rfl (aj rfl (aj (aN rfl rfl he) rfl)))) (cC (e1 n) rfl rfl rfl rfl))) rfl) (e2 n)
theorem f20(hl:w.length<=3){a b c d:Int}:∃a' b' c' d',∀n,fn 20 (run (n+3)) [.d (T4 a b c d), .d (.bytes (uM w)), .d (.list (oN.map .int))] O2= .ok (.d (T4 (Int.fmod a' 4294967296) (Int.fmod b' 4294967296) (Int.fmod c' 4294967296) (Int.fmod d' 4294967296))) O2:=by
 refine cps λPP kk=> ?_;obtain⟨a1,b1,c1,d1,y1,e⟩:=zz (B:=uM w) (q0:=some (.d (T4 a b c d))) (N:=oN) rfl (ws:=Wo w) (tl:=List.replicate 12 none) rfl (List.range 64) (a:=a) (b:=b) (c:=c) (d:=d) (y:=none) λj hj=>List.mem_range.mp hj;refine kk ?_;clear kk;have g:=fQ (out:=bh) (pn:=none) (o:=O2) (mk:=λq:Int×Int=>V.d (.tup [.int q.1, .int q.2])) (nx:=λq=>(some (V.d (.int q.1)),some (V.d (.int q.2)))) (Lo:=λy:Option V×Option V=>some (.d (T4 a b c d))::some (.d (.bytes (uM w)))::some (.d (.list (oN.map .int)))::some (.d (.list ((Wo w).map .int)))::some (.d (T4 a1 b1 c1 d1))::y1::none::y.1::y.2::List.replicate 9 none) (bd:=jE [7,8]) (e:=aB jj (aB cF (af 7) (af 8)) (ai (.int 4294967296))) (f:=λq=> .int ((q.1+q.2).fmod 4294967296)) (l:=[(a,a1),(b,b1),(c,c1),(d,d1)]) (y:=(none,none)) rfl (λx y=>rfl) (λq hq=>aN (aN rfl rfl rfl) rfl rfl) (show 4 < 1000000 by decide);exact⟨a+a1,b+b1,c+c1,d+d1,λn=>dH rfl (fE (aA (asg (au (aj rfl rfl) (cC (f15 (n:=n+1) hl) rfl rfl rfl rfl))) (aA (asg rfl) (aA (mw (oh (r:=(0,64,1)) (aj rfl rfl) rfl rfl) (e (n+1))) (bG (bZ (au (aj (i6 (gj (aj rfl (aj rfl rfl)) rfl) g) rfl) (JV (show 4 < 1000000 by decide)))))))) rfl)⟩
theorem K9:qx (x.fmod 256)=true:=by
 rw[Int.fmod_eq_emod_of_nonneg _ (by decide)];exact cM ⟨Int.emod_nonneg _ (by decide),Int.emod_lt_of_pos _ (by decide)⟩
theorem f12:fn 12 (run n) [.d (.int x), .d (.int 4)] O2= .ok (.d (.bytes (oq x))) O2:=by
 have g:=fQ (out:=bh) (pn:=none) (o:=O2) (mk:=λj:Nat=>V.d (.int (0+1 * (j:Int)))) (nx:=λj=>some (V.d (.int (0+1 * (j:Int))))) (Lo:=λy:Option V=>some (.d (.int x))::some (.d (.int 4))::none::y::List.replicate 10 none) (bd:=aU 3) (e:=aB jj (aB j7 (af 0) (aB zF (ai (.int 256)) (af 3))) (ai (.int 256))) (f:=λj=> .int ((x.fdiv (256 ^ j)).fmod 256)) (l:=[0,1,2,3]) (y:=none) rfl (λx y=>rfl) (λq hq=>by
  rcases cN.mp hq with rfl |hq
  ·kernel_rfl
  rcases cN.mp hq with rfl |hq
  ·kernel_rfl
  rcases cN.mp hq with rfl |hq
  ·kernel_rfl
  cases dQ.mp hq
  kernel_rfl) (by decide)
 have b:j0 (.d (.list (([0,1,2,3]:List Nat).map λj=>D.int ((x.fdiv (256 ^ j)).fmod 256)))) O2= .ok (.d (.bytes (oq x))) O2:=by
  show bz ((([0,1,2,3]:List Nat).map λj=>(x.fdiv (256 ^ j)).fmod 256).all qx&&true) _=_;rw[cZ.mpr λy hy=>by obtain⟨j,_,rfl⟩:=mM hy;exact K9];rfl
 exact dH rfl (fE (bG (bZ (au (aj (i6 (oh (r:=(0,4,1)) (aj rfl rfl) rfl rfl) g) rfl) b))) rfl)
theorem Zn(hl:w.length<=3):(uM w).length=64:=by
 cases Pw hl<;>kernel_rfl
theorem cbk(hl:w.length<=3):cut (uM w) (some (0:Int).toNat) (some (64:Int).toNat)=uM w:=by
 have lb:=Zn hl;unfold cut;show((uM w).drop (min 0 (uM w).length)).take (min 64 (uM w).length - min 0 (uM w).length)=_;rw[lb];show(uM w).take 64=_;exact Ay (jR lb)
theorem jn4:CX (.d (.bytes [])) (.d (.list [.bytes (oq x), .bytes (oq y), .bytes (oq z), .bytes (oq s)])) o= .ok (.d (.bytes (oq x++oq y++oq z++oq s))) o:=by kernel_rfl
theorem vL(hl:w.length<=3):∃dg,Dg w dg:=by
 obtain⟨a,b,c,d,e⟩:=f20 hl (a:=1732584193) (b:=4023233417) (c:=2562383102) (d:=271733878);generalize Int.fmod a 4294967296=a at e;generalize Int.fmod b 4294967296=b at e;generalize Int.fmod c 4294967296=c at e;generalize Int.fmod d 4294967296=d at e;have lb:=Zn hl;have dc:∀{x3:Option V}{tl:bL},uL (af 2) (qi (af 4)) (qi (aB cF (af 4) (ai (.int 64)))) (some (.d (.bytes w))::some (.d (.list (oN.map .int)))::some (.d (.bytes (uM w)))::x3::some (.d (.int 0))::tl) O2= .ok (.d (.bytes (uM w))) O2:=λ{x3 tl}=>by
  show bz (c6 (uM w).length) (aR.ok (V.d (.bytes (cut (uM w) (some (0:Int).toNat) (some (64:Int).toNat)))) O2)=_;rw[cbk hl,lb];rfl
 have ln:∀{x3:Option V}{tl:bL},aq (bB dj) (aa (af 2) ak) (some (.d (.bytes w))::some (.d (.list (oN.map .int)))::some (.d (.bytes (uM w)))::x3::tl) O2= .ok (.d (.int 64)) O2:=λ{x3 tl}=>au (aj rfl rfl) (by
  show bz (c6 (uM w).length) (pU ((uM w).length:Int) _)=_;rw[lb];rfl)
 refine⟨oq a++oq b++oq c++oq d,λn=> ?_⟩;have g:=fQ (out:=bh) (pn:=none) (o:=O2) (mk:=λx:Int=>V.d (.int x)) (nx:=λx=>some (V.d (.int x))) (Lo:=λy:Option V=>some (.d (.bytes w))::some (.d (.list (oN.map .int)))::some (.d (.bytes (uM w)))::some (.d (T4 a b c d))::some (.d (.int 0))::none::y::List.replicate 10 none) (bd:=aU 6) (e:=aq (run (n+9) 12) (aa (af 6) (aa (ai (.int 4)) ak))) (f:=λx=> .bytes (oq x)) (l:=[a,b,c,d]) (y:=none) rfl (λx y=>rfl) (λq hq=>au (aj rfl (aj rfl rfl)) (cC f12 rfl rfl rfl rfl)) (show 4 < 1000000 by decide);exact dH rfl (fE (aA (asg (au rfl (cC (f11 (n:=n+7)) rfl rfl rfl rfl))) (aA (asg (au (aj rfl rfl) (cC (f13 (n:=n+7) hl) rfl rfl rfl rfl))) (aA (asg rfl) (aA (mw (oh (r:=(0,64,64)) (aj rfl (aj ln (aj rfl rfl))) rfl rfl) (fH (vs:=[]) rfl (aA (asg (au (aj rfl (aj dc (aj rfl rfl))) (cC (e (n+5)) rfl rfl rfl rfl))) rfl) rfl)) (bG (bZ (aL rfl rfl (aj (i6 (jB rfl rfl) g) rfl) jn4))))))) rfl)
end
noncomputable abbrev EH(s:List Int)(sp:Nat)(gr sd:Int):aH:= .list [.list (s.map .int), .int (sp:Int), .int gr, .int sd]
noncomputable abbrev Op(s:List Int)(sp:Nat)(gr sd:Int):az:=[.tab 0, .tab 1,EH s sp gr sd]
inductive PO(k:Nat):aH->Prop
 |mk (s:List Int) (sp:Nat) (gr sd:Int) (h1:s.length<=63) (h2:sp<=k) (h3:0<=gr) (h4:0<=sd/\sd < 1009):PO k (EH s sp gr sd)
noncomputable abbrev Wi(m:Nat):Prop:=m=2\/m=3\/m=4\/m=5\/m=256
section
variable{n k m sp:Nat}{o os:az}{d:D}{v:V}{a b c x y z gr sd:Int}{s:List Int}
theorem PO.up{x:aH}(h:PO k x)(hk:k<=k'):PO k' x:=by cases h with |mk s sp gr sd h1 h2 h3 h4=>exact .mk s sp gr sd h1 (cS h2 hk) h3 h4
theorem ZW(hm:Wi m):j7 (.d (.int x)) (.d (.int (m:Int))) o= .ok (.d (.int (x.fdiv (m:Int)))) o:=by rcases hm with rfl |rfl |rfl |rfl |rfl<;>rfl
theorem VW(hm:Wi m):∃j:Nat,j < m/\jj (.d (.int x)) (.d (.int (m:Int))) o= .ok (.d (.int (j:Int))) o:=by
 obtain⟨j,h1,h2⟩:=xm (k:=m) (by rcases hm with rfl |rfl |rfl |rfl |rfl<;>decide) x;refine⟨j,h1, ?_⟩;rw[<-h2];rcases hm with rfl |rfl |rfl |rfl |rfl<;>rfl
theorem ZJ(hm:Wi m)(h:0<=x):0<=x.fdiv (m:Int):=by
 rw[Int.fdiv_eq_ediv_of_nonneg _ (n6 _)];exact Int.ediv_nonneg h (n6 _)
theorem Qq(h0:0<=x)(h:x < 18446744073709551616):Builtin.Int.intBits x<=64:=by
 unfold Builtin.Int.intBits;split
 ·decide
 ·rename_i q;have h0:x.natAbs≠0:=λe=>q (by rw[Int.natAbs_eq_zero.mp e];rfl);exact(Nat.log2_lt h0).mpr (by exact YV ‹0<=x› h)
theorem VV(h0:0<=x)(h:x < 18446744073709551616):iY (.d (.int x)) (.d (.int y)) o= .ok (.d (.int (x * y))) o:=by
 show bz (om x y) _=_;unfold om;rw[fM (pX.mpr (show Builtin.Int.intBits x<=shortFactorBits from Qq h0 h))];rfl
inductive XT(k:Nat)(m:Nat)(p:aH):Prop
 |mk (d:Nat) (p':aH) (_:d < m) (_:PO (k+1) p') (_:∀n,fn 54 (run n) [.h 2, .d (.int (m:Int))] [.tab 0, .tab 1,p]= .ok (.d (.int (d:Int))) [.tab 0, .tab 1,p'])
theorem HV(hm:Wi m)(hk:k<=900)(P:PO k p):XT k m p:=by
 cases P with
 |mk s sp gr sd h1 h2 h3 h4=>
 have i2:∀{tl:bL}{sp:Nat},aB aC (af 0) (ai (.int 2)) (some (.h 2)::tl) (Op s sp gr sd)= .ok (.d (.int gr)) (Op s sp gr sd):=λ{tl sp}=>aN rfl rfl rfl;have i1:∀{tl:bL},aB aC (af 0) (ai (.int 1)) (some (.h 2)::tl) (Op s sp gr sd)= .ok (.d (.int (sp:Int))) (Op s sp gr sd):=λ{tl}=>aN rfl rfl rfl
 by_cases hg:0 < gr
 ·obtain⟨j,hj,e⟩:=VW (x:=gr) (o:=Op s sp gr sd) hm;refine⟨j,_,hj, .mk s sp (gr.fdiv (m:Int)) sd h1 (by exact Nat.le_succ_of_le (by assumption)) (ZJ hm h3) h4,λn=> ?_⟩;exact dH rfl (fh (o1:=Op s sp (gr.fdiv (m:Int)) sd) (v:= .d (.int (j:Int))) (bG (ly (aQ i2 rfl (show l9 (decide (0 < gr)) _= .ok (.d (.bool true)) _ from by rw[cM hg];rfl) rfl) (aA (asg (aN i2 rfl e)) (aA (h_ (aN i2 rfl (ZW hm)) rfl rfl rfl rfl) (bG (bZ rfl)))))) rfl rfl)
 ·have c1:∀{tl:bL},aE C3 (aB aC (af 0) (ai (.int 2))) (ai (.int 0)) (some (.h 2)::tl) (Op s sp gr sd)= .ok false (Op s sp gr sd):=λ{tl}=>aQ i2 rfl (show l9 (decide (0 < gr)) _= .ok (.d (.bool false)) _ from by rw[fM hg];rfl) rfl;have st:∀{tl:bL},iu (aB cF (af 3) (ai (.int 1))) (af 0) (ai (.int 1)) (some (.h 2)::some (.d (.int (m:Int)))::none::some (.d (.int (sp:Int)))::tl) (Op s sp gr sd)= .ok (.next (some (.h 2)::some (.d (.int (m:Int)))::none::some (.d (.int (sp:Int)))::tl)) (Op s (sp+1) gr sd):=λ{tl}=>h_ (aN rfl rfl rfl) rfl rfl rfl rfl;have i0:∀{tl:bL}{gr:Int},aB aC (af 0) (ai (.int 0)) (some (.h 2)::tl) (Op s (sp+1) gr sd)= .ok (.d (.list (s.map .int))) (Op s (sp+1) gr sd):=λ{tl gr}=>aN rfl rfl rfl;have ln:∀{tl:bL},aq (bB dj) (aa (aB aC (af 0) (ai (.int 0))) ak) (some (.h 2)::tl) (Op s (sp+1) gr sd)= .ok (.d (.int (s.length:Int))) (Op s (sp+1) gr sd):=λ{tl}=>au (aj i0 rfl) ((yV (by rw[cO];exact pA ‹_› rfl)).trans (by rw[cO]));have ge:∀{b:Bool}{o:az},decide (s.length<=sp)=b->V8 (.d (.int (sp:Int))) (.d (.int (s.length:Int))) o= .ok (.d (.bool b)) o:=λ{b o} h=>by
   show l9 (decide ((s.length:Int)<=(sp:Int))) _=_;rw[show decide ((s.length:Int)<=(sp:Int))=decide (s.length<=sp)from vS.mpr pZ,h];rfl
  by_cases hs:s.length<=sp
  ·obtain⟨j,hj,e⟩:=VW (x:=((sd+5) * ((sp:Int)+3) * ((sp:Int)+11)).fdiv 7) (o:=Op s (sp+1) gr sd) hm;have b1:(sd+5) * ((sp:Int)+3) < 18446744073709551616/\0<=(sd+5) * ((sp:Int)+3):=by
    have q:(sd+5) * ((sp:Int)+3)<=1014 * 1000:=Int.mul_le_mul (by exact Int.add_le_add_right (Int.le_of_lt h4.2) 5) (by exact Int.le_trans (Int.add_le_add_right (pZ.mpr (cS h2 hk)) 3) (by decide)) (by exact n6 _) (by decide);exact⟨by exact Int.lt_of_le_of_lt q (by decide),Int.mul_nonneg (by exact Int.add_nonneg h4.1 (by decide)) (by exact n6 _)⟩
   refine⟨j,_,hj, .mk s (sp+1) gr sd h1 (by exact kX (by assumption)) h3 h4,λn=> ?_⟩;exact dH rfl (fh (o1:=Op s (sp+1) gr sd) (v:= .d (.int (j:Int))) (aA (ez c1 rfl) (aA (asg i1) (aA st (bG (ly (aQ rfl ln (ge (cM hs)) rfl) (bG (bZ (aN (aN (aN (aN (aN (aN rfl rfl rfl) rfl rfl) (aN rfl rfl rfl) (VV (by exact Int.add_nonneg h4.1 (by decide)) (by exact Int.lt_of_le_of_lt (Int.add_le_add_right (Int.le_of_lt h4.2) 5) (by decide)))) (aN rfl rfl rfl) (VV b1.2 b1.1)) rfl rfl) rfl e)))))))) rfl rfl)
  ·have hs':sp < s.length:=Nat.not_le.mp hs;have ic:∀{o:az},aC (.d (.list (s.map .int))) (.d (.int (sp:Int))) o= .ok (.d (.int s[sp])) o:=λ{o}=>uF (by rw[cO];exact pA ‹_› rfl) (by rw[gB,je hs'];rfl);generalize s[sp]=cl at ic;have ab:∀{o:az},zx (.d (.int cl)) o= .ok (.d (.int (if cl < 0 then -cl else cl))) o:=λ{o}=>rfl;have hab:0<=(if cl < 0 then -cl else cl):=by split<;>first |exact Int.neg_nonneg_of_nonpos (Int.le_of_lt ‹_›) |exact Int.not_lt.mp ‹_›
   generalize(if cl < 0 then -cl else cl)=ac at ab hab;have lt:∀{b:Bool}{o:az},decide (ac < 1000000000000000000)=b->uJ (.d (.int ac)) (.d (.int (10 ^ 18))) o= .ok (.d (.bool b)) o:=λ{b o} h=>by
    show l9 (decide (ac < 1000000000000000000)) _=_;rw[h];rfl
   have pw:∀{loc:bL}{o:az},aB zF (ai (.int 10)) (ai (.int 18)) loc o= .ok (.d (.int (10 ^ 18))) o:=λ{loc o}=>aN rfl rfl rfl
   by_cases hc:ac < 1000000000000000000
   ·obtain⟨j,hj,e⟩:=VW (x:=cl) (o:=Op s (sp+1) gr sd) hm;refine⟨j,_,hj, .mk s (sp+1) gr sd h1 (by exact kX (by assumption)) h3 h4,λn=> ?_⟩;exact dH rfl (fh (o1:=Op s (sp+1) gr sd) (v:= .d (.int (j:Int))) (aA (ez c1 rfl) (aA (asg i1) (aA st (aA (ez (aQ rfl ln (ge (fM hs)) rfl) rfl) (aA (asg (aN i0 rfl ic)) (bG (ly (aQ (au (aj rfl rfl) ab) pw (lt (cM hc)) rfl) (bG (bZ (aN rfl rfl e)))))))))) rfl rfl)
   ·obtain⟨g,hg0,eg⟩:∃g:Int,0<=g/\∀{tl:bL}{o:az}{a b c d:Option V},aB cF (aB iY (ai (.int 2)) (aB j6 (aq (bB zx) (aa (af 4) ak)) (aB zF (ai (.int 10)) (ai (.int 18))))) (eW (aE uJ (af 4) (ai (.int 0))) (ai (.int 1)) (ai (.int 0))) (a::b::c::d::some (.d (.int cl))::tl) o= .ok (.d (.int g)) o:=by
     have hq:(0:Int)<=2 * (ac - 10 ^ 18):=by exact Int.mul_nonneg (by decide) (Int.sub_nonneg_of_le (Int.not_lt.mp hc))
     by_cases h0:cl < 0
     ·exact⟨2 * (ac - 10 ^ 18)+1,by exact Int.add_nonneg hq (by decide),λ{tl o a b c d}=>aN (aN rfl (aN (au (aj rfl rfl) ab) pw rfl) (VV (by decide) (by decide))) (mj (aQ rfl rfl (show l9 (decide (cl < 0)) _= .ok (.d (.bool true)) _ from by rw[cM h0];rfl) rfl) rfl) rfl⟩
     ·exact⟨2 * (ac - 10 ^ 18)+0,by exact Int.add_nonneg hq (by decide),λ{tl o a b c d}=>aN (aN rfl (aN (au (aj rfl rfl) ab) pw rfl) (VV (by decide) (by decide))) (lu (aQ rfl rfl (show l9 (decide (cl < 0)) _= .ok (.d (.bool false)) _ from by rw[fM h0];rfl) rfl) rfl) rfl⟩
    obtain⟨j,hj,e⟩:=VW (x:=g) (o:=Op s (sp+1) (g.fdiv (m:Int)) sd) hm;refine⟨j,_,hj, .mk s (sp+1) (g.fdiv (m:Int)) sd h1 (by exact kX (by assumption)) (ZJ hm hg0) h4,λn=> ?_⟩;exact dH rfl (fh (o1:=Op s (sp+1) (g.fdiv (m:Int)) sd) (v:= .d (.int (j:Int))) (aA (ez c1 rfl) (aA (asg i1) (aA st (aA (ez (aQ rfl ln (ge (fM hs)) rfl) rfl) (aA (asg (aN i0 rfl ic)) (aA (ez (aQ (au (aj rfl rfl) ab) pw (lt (fM hc)) rfl) rfl) (aA (asg eg) (aA (h_ (aN rfl rfl (ZW hm)) rfl rfl rfl rfl) (bG (bZ (aN rfl rfl e))))))))))) rfl rfl)
end
section
variable{n k m sp:Nat}{o os:az}{d:D}{v:V}{a b c x y z gr sd:Int}{s:List Int}{p p':aH}
theorem PO.aY(h:PO k p):p.aY=true:=by cases h;rfl
theorem V_{v:V}(P:PO k p)(h:fn 54 (run n) [.h 2, .d (.int x)] [.tab 0, .tab 1,p]= .ok (.d d) [.tab 0, .tab 1,p'])(hf:os.all aH.aY=true):run (n+1) 54 [.h 2, .d (.int x)] (.tab 0:: .tab 1::p::os)= .ok (.d d) (.tab 0:: .tab 1::p'::os):=
 bu h rfl rfl rfl (by show(p.aY&&os.all aH.aY)=true;rw[P.aY,hf];rfl) (by
  show aR.ok (V.d d) (.tab 0:: .tab 1::p'::(os++[]))=_;rw[fC])
theorem wY:∀{s:List Int},mq (s.map .int)=some s
 | []=>rfl
 |x::s=>by
  show(mq (s.map .int)).map (λZ=>x::Z)=_;rw[wY];rfl
theorem f55(hs:s.length<=63):∃p,PO 0 p/\∀n,fn 55 (run n) [.d (.list (s.map .int))] O2= .ok (.h 2) [.tab 0, .tab 1,p]:=by
 have ct:cut (s.map D.int) none (some (63:Int).toNat)=s.map .int:=by
  unfold cut;show((s.map D.int).drop (min 0 (s.map D.int).length)).take (min 63 (s.map D.int).length - min 0 (s.map D.int).length)=_;rw[cO,Nat.zero_min,Nat.min_eq_right hs];exact Ay (by rw[List.length_drop,cO];exact Nat.le_refl _)
 have dc:∀{tl:bL},uL (af 0) yF (qi (ai (.int 63))) (some (.d (.list (s.map .int)))::tl) O2= .ok (.d (.list (s.map .int))) O2:=λ{tl}=>by
  show bz (c6 (s.map D.int).length) (aR.ok (V.d (.list (cut (s.map D.int) none (some (63:Int).toNat)))) O2)=_;rw[ct,cO,bR (by exact pA ‹_› rfl)];rfl
 have fl:zv (.d (.list (s.map .int))) O2= .ok (.d (.list (s.map .int))) O2:=by
  show bz (c6 (s.map D.int).length) _=_;rw[cO,bR (by exact pA ‹_› rfl)];rfl
 have sm:Ln (.d (.list (s.map .int))) O2= .ok (.d (.int s.sum)) O2:=by
  show bx (mq (s.map .int)) _=_;rw[wY];rfl
 obtain⟨j,hj,ej⟩:=xm (k:=1009) (by decide) (if s.sum < 0 then -s.sum else s.sum);have e:jj (.d (.int (if s.sum < 0 then -s.sum else s.sum))) (.d (.int 1009)) O2= .ok (.d (.int (j:Int))) O2:=by
  show pU (Int.fmod (if s.sum < 0 then -s.sum else s.sum) 1009) _=_;rw[show Int.fmod (if s.sum < 0 then -s.sum else s.sum) 1009=(j:Int)from ej];rfl
 exact⟨_, .mk s 0 0 j hs (Nat.le_refl _) (by decide) (by exact SH ‹_›),λn=>dH rfl (fh (o1:=[.tab 0, .tab 1,EH s 0 0 j]) (v:= .h 2) (bG (bZ (yQ (o2:=O2) (ds:=[.list (s.map .int), .int 0, .int 0, .int (j:Int)]) (aj (au (aj dc rfl) fl) (aj rfl (aj rfl (aj (aN (au (aj (au (aj dc rfl) sm) rfl) rfl) rfl e) rfl)))) rfl rfl))) rfl rfl)⟩
noncomputable abbrev Z9(l:List Int):Prop:=∀b ∈ l,0<=b/\b < 256
theorem yJ{tl:bL}:∀(c t k:Nat){fd:List Int}{p:aH}{y4 y3:Option V},PO k p->k+2 * c<=900->c+t<=3->fd.length=t->Z9 fd->
  ∃fd' p' z3 z4,PO (k+2 * c) p'/\fd'.length=t+c/\Z9 fd'/\jb none (aU 3) (MY (run (n+1))) ((List.range' t c).map λj:Nat=>V.d (.int (0+1 * (j:Int)))) (some (.h 2)::some (.d (.int 3))::some (.h 3)::y3::y4::tl) [.tab 0, .tab 1,p, .list (fd.map .int)]= .ok (.next (some (.h 2)::some (.d (.int 3))::some (.h 3)::z3::z4::tl)) [.tab 0, .tab 1,p', .list (fd'.map .int)]
 | 0,t,k,fd,p,y4,y3,P,hk,ht,hl,hb=>⟨fd,p,y3,y4,P,hl,hb,rfl⟩
 |c+1,t,k,fd,p,y4,y3,P,hk,ht,hl,hb=>by
  refine cps λPP kk=> ?_;obtain⟨w,p1,hw,P1,e1⟩:=HV (m:=3) (.inr (.inl rfl)) (by exact SD ‹_›) P;have ap:∀{p:aH}{b:Int},fG (.h 3) (.d (.int b)) [.tab 0, .tab 1,p, .list (fd.map .int)]= .ok (.d .none) [.tab 0, .tab 1,p, .list ((fd++[b]).map .int)]:=λ{p b}=>by
   show bz (c6 (fd.map D.int).length) (aR.ok (V.d .none) [.tab 0, .tab 1,p, .list (fd.map .int++[.int b])])=_;rw[cO,bR (by exact pA (cS (jR hl) (cS (uq t (c+1)) ht)) rfl),fZ];rfl
  have eI:∀{i:Int}{b:Bool}{o:az},decide ((w:Int)=i)=b->gi (.d (.int (w:Int))) (.d (.int i)) o= .ok (.d (.bool b)) o:=λ{i b o} h=>by rw[<-h];rfl
  obtain⟨b,p2,hb2,P2,e2⟩:∃(b:Int)(p2:aH),(0<=b/\b < 256)/\PO (k+2) p2/\eW (aE gi (af 4) (ai (.int 0))) (ai (.int 0)) (eW (aE gi (af 4) (ai (.int 1))) (aB aC (aB cF (af 2) (d8 false (aa (ai (.int 255)) ak))) (eW (aE C3 (af 3) (ai (.int 0))) (aB j6 (af 3) (ai (.int 1))) (ai (.int 0)))) (aq (run (n+1) 54) (aa (af 0) (aa (ai (.int 256)) ak)))) (some (.h 2)::some (.d (.int 3))::some (.h 3)::some (.d (.int (t:Int)))::some (.d (.int (w:Int)))::tl) [.tab 0, .tab 1,p1, .list (fd.map .int)]= .ok (.d (.int b)) [.tab 0, .tab 1,p2, .list (fd.map .int)]:=by
   by_cases w0:(w:Int)=0
   ·exact⟨0,p1,by decide,P1.up (oR _),mj (aQ rfl rfl (eI (cM w0)) rfl) rfl⟩
   ·by_cases w1:(w:Int)=1
    ·have ix:∃i:Nat,i < (fd++[255]).length/\∀{tl:bL}{a b c:Option V}{o:az},eW (aE C3 (af 3) (ai (.int 0))) (aB j6 (af 3) (ai (.int 1))) (ai (.int 0)) (a::b::c::some (.d (.int (t:Int)))::tl) o= .ok (.d (.int (i:Int))) o:=by
      by_cases t0:(0:Int) < (t:Int)
      ·refine⟨t - 1,by rw[dJ,hl];exact Nat.lt_succ_of_le (Nat.sub_le t 1),λ{tl a b c o}=>mj (aQ rfl rfl (show l9 (decide ((0:Int) < (t:Int))) _= .ok (.d (.bool true)) _ from by rw[cM t0];rfl) rfl) (aN rfl rfl (show pU ((t:Int) - 1) _=_ from by rw[show(t:Int) - 1=((t - 1:Nat):Int)by exact(Int.ofNat_sub (qX.mp t0)).symm];rfl))⟩
      ·exact⟨0,by rw[dJ];exact Nat.succ_pos _,λ{tl a b c o}=>lu (aQ rfl rfl (show l9 (decide ((0:Int) < (t:Int))) _= .ok (.d (.bool false)) _ from by rw[fM t0];rfl) rfl) rfl⟩
     obtain⟨i,hi,ei⟩:=ix;have hm:(fd++[255])[i] ∈ fd++[255]:=List.getElem_mem hi;have ad:cF (.h 3) (.d (.list [.int 255])) [.tab 0, .tab 1,p1, .list (fd.map .int)]= .ok (.d (.list ((fd++[255]).map .int))) [.tab 0, .tab 1,p1, .list (fd.map .int)]:=by
      show bz (c6 ((fd.map D.int).length+1)) (aR.ok (V.d (.list (fd.map .int++[.int 255]))) _)=_;rw[cO,bR (by exact pA (kX (cS (jR hl) (cS (uq t (c+1)) ht))) rfl),fZ];rfl
     refine⟨(fd++[255])[i],p1,(gU.mp hm).elim (hb _) λh=>by rw[dQ.mp h];decide,P1.up (oR _),lu (aQ rfl rfl (eI (fM w0)) rfl) (mj (aQ rfl rfl (eI (cM w1)) rfl) (aN (aN rfl (kF rfl rfl rfl) ad) ei (uF (by rw[cO,dJ,hl];exact eG (show t+1<=10 by exact qq (kX (cS (uq t (c+1)) ht)) rfl) (by decide)) (by rw[gB,je hi];rfl))))⟩
    ·obtain⟨b,p2,hb',P2,e2⟩:=HV (m:=256) (.inr (.inr (.inr (.inr rfl)))) (by exact cS (iR (Nat.succ_pos (2 * c+1):0 < 2 * (c+1)) k) hk) P1;exact⟨(b:Int),p2,by exact SH ‹_›,P2,lu (aQ rfl rfl (eI (fM w0)) rfl) (lu (aQ rfl rfl (eI (fM w1)) rfl) (au (aj rfl (aj rfl rfl)) (V_ (v:= .h 2) P1 (e2 n) rfl)))⟩
  obtain⟨fd',p',z3,z4,P',hl',hb',e⟩:=yJ (tl:=tl) c (t+1) (k+2) (fd:=fd++[b]) (y3:=some (.d (.int (t:Int)))) (y4:=some (.d (.int (w:Int)))) P2 (by exact VD▸hk) (by exact cS (jR (Nat.add_right_comm c t 1)) ht) (by rw[dJ,hl];rfl) (λx hx=>(gU.mp hx).elim (hb x) λh=>by rw[dQ.mp h];exact hb2);refine kk ?_;clear kk;refine⟨fd',p',z3,z4,by rw[show k+2 * (c+1)=k+2+2 * c by exact VD];exact P',by exact hl'.trans (Nat.add_right_comm t 1 c),hb', ?_⟩;rw[show List.range' t (c+1)=t::List.range' (t+1) c from rfl,qY,show(0+1 * (t:Int))=(t:Int)by exact Zh];exact fH rfl (aA (asg (au (aj rfl (aj rfl rfl)) (V_ (v:= .h 2) P (e1 n) rfl))) (aA (iX (aL rfl rfl (aj e2 rfl) ap)) rfl)) e
inductive XR(n:Nat)(k:Nat)(p:aH):Prop
 |mk (w p') (_:w.length<=3) (_:PO (k+7) p') (_:fn 56 (run (n+1)) [.h 2, .d (.int 3)] [.tab 0, .tab 1,p]= .ok (.d (.bytes w)) [.tab 0, .tab 1,p'])
theorem V5(P:PO k p)(hk:k<=800):XR n k p:=by
 obtain⟨d,p1,hd,P1,e1⟩:=HV (m:=4) (.inr (.inr (.inl rfl))) (by exact qq ‹_› rfl) P;obtain⟨fd,p2,z3,z4,P2,hl,hb,e⟩:=yJ (n:=n) (tl:=List.replicate 12 none) d 0 (k+1) (fd:=[]) (y3:=none) (y4:=none) P1 (by exact cS (Nat.add_le_add (kX hk) (vW 2 (jz hd))) (by decide)) (by exact lz3 ‹_› rfl) rfl (λx hx=>nomatch hx);have rr:MA (0,(d:Int),1)=true/\jV 0 1 (Builtin.Range.rangeSize 0 (d:Int) 1).toNat=(List.range' 0 d).map λj:Nat=>V.d (.int (0+1 * (j:Int))):=by
  clear e hl P2 e1;rcases KN hd with rfl |rfl |rfl |rfl
  ·exact⟨rfl,rfl⟩
  ·exact⟨rfl,rfl⟩
  ·exact⟨rfl,rfl⟩
  ·exact⟨rfl,rfl⟩
 have by_:j0 (.h 3) [.tab 0, .tab 1,p2, .list (fd.map .int)]= .ok (.d (.bytes (vN fd))) [.tab 0, .tab 1,p2, .list (fd.map .int)]:=by
  show bx (mq (fd.map .int)) (λns=>bz (ns.all qx&&c6 (fd.map D.int).length) _)=_;rw[wY];show bz (fd.all qx&&c6 (fd.map D.int).length) _=_;rw[show fd.all qx=true from cZ.mpr λy hy=>cM (hb y hy),cO,bR (by rw[hl,jQ];exact d9 hd (by decide))];rfl
 refine⟨vN fd,p2,by unfold vN;rw[List.length_map];rw[hl,Nat.zero_add];exact Nat.le_of_lt_succ hd,P2.up (by rw[Nat.add_assoc];exact Nat.add_le_add_left (KI (Nat.le_of_lt_succ hd) rfl) k), ?_⟩;exact dH rfl (fh (o1:=[.tab 0, .tab 1,p2, .list (fd.map .int)]) (v:= .d (.bytes (vN fd))) (aA (asg (yQ rfl rfl rfl)) (aA (mw ((oh (r:=(0,(d:Int),1)) (aj (au (aj rfl (aj (aN rfl rfl rfl) rfl)) (V_ (v:= .h 2) (os:=[.list []]) P (e1 n) rfl)) rfl) rfl rr.1).trans (congrArg (λl=>aR.ok (l,none) _) rr.2)) e) (bG (bZ (au (aj rfl rfl) by_))))) rfl rfl)
end
noncomputable abbrev FL:=List (List UInt8×List UInt8)
noncomputable def rS:Int->FL->List (aG×D)
 |_,[]=>[]
 |i,f::r=>(.int i,fK 0 (rZ (uf f.2 [] false) f.2))::(.int (i+1),fK 0 (.dict .ks (xU f.1 i false)))::rS (i+2) r
noncomputable def su:Int->FL->List NP
 |_,[]=>[]
 |i,f::r=>(f.1,rf (i+1) 0)::su (i+2) r
noncomputable abbrev Bd(p:NP):D:= .dict .ks [kv "Limits" (.list [e8 p.1,e8 p.1]),kv "Names" (.list [e8 p.1,p.2])]
noncomputable def Tt:Int->List NP->List (aG×D)
 |_,[]=>[]
 |i,p::r=>(.int i,fK 0 (Bd p))::Tt (i+1) r
noncomputable def Py:Int->List NP->List D
 |_,[]=>[]
 |i,_::r=>rf i 0::Py (i+1) r
noncomputable def Rn(fl:FL):Int:=((2 * fl.length+1:Nat):Int)
noncomputable def nM(fl:FL):Nat->D
 | 0=>fu (su 1 fl)
 | 1=> .dict .ks [kv "Kids" (.list (Py (Rn fl) (su 1 fl)))]
 |_=> .dict .ks [kv "Kids" (.list ((su 1 fl).map Bd))]
noncomputable def Ss(fl:FL):Nat->Int
 | 1=>((3 * fl.length+1:Nat):Int)
 |_=>Rn fl
noncomputable def lZ(fl:FL)(bD:Nat):Nat->D
 | 0=>rf (Ss fl bD) 0
 |_=>nM fl bD
noncomputable abbrev xO:aG×D:=(.int 40,fK 0 (.list [.int 1, .int 2]))
noncomputable def Tr(fl:FL):Nat->List (aG×D)
 | 1=>Tt (Rn fl) (su 1 fl)
 |_=>[]
noncomputable def f_(fl:FL)(bD:Nat):Nat->List (aG×D)
 | 0=>xO::(rS 1 fl++(Tr fl bD++[(.int (Ss fl bD),fK 0 (nM fl bD))]))
 |_=>xO::(rS 1 fl++Tr fl bD)
noncomputable def xS:FL->List (aG×D)
 | [x,y,z]=>[(.bytes x.1, .bytes x.2),(.bytes z.1, .bytes z.2),(.bytes y.1, .bytes y.2)]
 |l=>l.map λx=>(.bytes x.1, .bytes x.2)
noncomputable abbrev kU(p:aH)(T K:List (aG×D)):az:=[.tab 0, .tab 1,p, .dict .ki T, .dict .ks [], .dict .kb K]
inductive Ab:FL->Prop
 |one (w:List UInt8):Ab [([97],w)]
 |two (w v:List UInt8):Ab [([97],w),([98],v)]
 |jm (w v u:List UInt8):Ab [([97],w),([97,98],u),([98],v)]
section
variable{n k m sp:Nat}{o os:az}{d:D}{v:V}{a b c x y z gr sd:Int}{s:List Int}{p p':aH}{fl:FL}{x3:Option V}
noncomputable abbrev FJ(fl:FL):D:= .list ((su 1 fl).map λp=> .list [e8 p.1,p.2])
theorem iL{l:List (aG×D)}{x:aG}{v:D}(h:aJ l x=none):b_ l x v=l++[(x,v)]:=by unfold b_;rw[h];rfl
structure LF(T:List (aG×D))(k:Nat):Prop where
 on:∀a:Nat,a < k->∃d,aJ T (.int (1+a))=some d
 off:∀j:Nat,k<=j->j<=38->aJ T (.int (1+j))=none
theorem LF.add(h:LF T k):LF (T++[(.int (1+k),d)]) (k+1):=⟨λa ha=>by
 rw[pD,cT]
 by_cases q:a < k
 ·obtain⟨e,he⟩:=h.on a q;exact⟨e,by rw[he];rfl⟩
 ·have:a=k:=by exact Nat.le_antisymm (Nat.le_of_lt_succ ha) (Nat.le_of_not_lt q)
  subst this;rw[bw rfl];cases aJ T (.int (1+a))with
  |none=>exact⟨d,rfl⟩
  |some e=>exact⟨e,rfl⟩,λj h1 h2=>by
 rw[pD,h.off j (by exact jz (by assumption)) h2,cT,aZ (λe=>by have:=aG.int.inj e;exact absurd (Int.ofNat.inj (Int.add_left_cancel this)) (jc h1))];rfl⟩
theorem SO{T R:List (aG×D)}{d:D}(h:LF T k)(hk:k<=30)(ht:T.length<=40):fn 67 (run n) [sh, .d d] (O4 T R)= .ok (.d (rf (1+k) 0)) (O4 (T++[(.int (1+k),fK 0 d)]) R):=by
 have:=ZM (n:=n) (R:=R) (v:=d) (bR (eG ht (by decide))) h.on (h.off k (Nat.le_refl _) (by exact qq ‹_› rfl)) (by exact pA ‹_› rfl)
 rwa [iL (h.off k (Nat.le_refl _) (by exact qq ‹_› rfl))]at this
theorem f58(h:LF T k)(hk:k<=28)(ht:T.length<=38)(hw:w.length<=3):fn 58 (run (n+1)) [sh, .d (.bytes nm), .d (.bytes w)] (O4 T R)= .ok (.d (rf ((1+k)+1) 0)) (O4 (T++rS (1+k) [(nm,w)]) R):=by
 have e1:=SO (n:=n) (R:=R) (d:=rZ (uf w [] false) w) h (by exact qq ‹_› rfl) (by exact qq ‹_› rfl);have e2:=SO (n:=n) (R:=R) (d:= .dict .ks (xU nm (1+k) false)) (h.add (d:=fK 0 (rZ (uf w [] false) w))) (by exact pA ‹_› rfl) (by rw[dJ];exact kX (cS ht (by decide)));rw[show(1+((k+1:Nat):Int))=1+k+1 by rfl,jA]at e2;exact dH rfl (fh (o1:=O4 (T++rS (1+k) [(nm,w)]) R) (v:= .d (rf ((1+k)+1) 0)) (aA (asg (aL rfl rfl (aj (au (aj (Bw (sy rfl (au (aj rfl rfl) (KS (eG hw (by decide)))) rfl) rfl rfl rfl) (aj rfl rfl)) rfl) rfl) (cL (os:=[]) e1 rfl rfl rfl rfl)))
  (bG (bZ (aL rfl rfl (aj (Bw (sy rfl (au (aj rfl rfl) rfl) (sy rfl (au (aj rfl rfl) rfl) (sy rfl (Bw (sy rfl rfl rfl) rfl rfl rfl) rfl))) rfl rfl rfl) rfl) (cL (os:=[]) e2 rfl rfl rfl rfl))))) rfl rfl)
theorem UB{iP:List D->bL->az->aR V}{x:D}{RV:aR V}(h1:bd v loc o= .ok iW o1)(h2:t iW o1= .ok true o2)(h3:e iW o2= .ok (.d x) o3)(hl:c6 acc.length=true)(h4:jO none bd t (gu e) iP vs (acc++[x]) iW o3=RV):jO none bd t (gu e) iP (v::vs) acc loc o=RV:=by
 show(quiet (bd v loc o)).bind _=_;rw[h1];show(quiet (t iW o1)).bind _=_;rw[h2];show(quiet (gu e acc iW o2)).bind _=_;unfold gu;rw[h3];show(quiet (bz (c6 acc.length) (aR.ok (acc++[x],iW) o3))).bind _=_;rw[hl];exact h4
theorem Nu{K:List (aG×D)}:∀(fl:FL){k:Nat}{T:List (aG×D)}{acc:List D}{y:Option V},LF T k->k+2 * fl.length<=20->T.length+2 * fl.length<=30->acc.length<=k->(∀f ∈ fl,aJ K (.bytes f.1)=some (.bytes f.2)/\f.2.length<=3)->
  jO none (aU 9) bN (gu (d8 false (aa (aq (jZ .string 2 [.bool false]) (aa (af 9) ak)) (aa (aq (run (n+2) 58) (aa (af 1) (aa (af 9) (aa (aB aC (af 2) (af 9)) ak)))) ak)))) (Bv none bh) (fl.map λf=>V.d (.bytes f.1)) acc (some (.h 2)::some (.bV 3 (.h 4))::some (.h 5)::x3::none::none::none::none::none::y::tl) (kU (EH s sp gr sd) T K)
   = .ok (.d (.list (acc++(su (1+k) fl).map λp=> .list [e8 p.1,p.2]))) (kU (EH s sp gr sd) (T++rS (1+k) fl) K)
 | [],k,T,acc,y,h,h1,h2,ha,hK=>by
  show aR.ok (V.d (.list acc)) (kU (EH s sp gr sd) T K)=_;rw[show su (1+k) []=[]from rfl,show rS (1+k) []=[]from rfl,fC];show _=aR.ok (V.d (.list (acc++[]))) _;rw[fC]
 |f::fl,k,T,acc,y,h,h1,h2,ha,hK=>by
  rw[jS]at h1 h2;obtain⟨k1,k2⟩:=hK f (.head _);have e:=f58 (n:=n) (R:=[]) (nm:=f.1) h (by exact Pp ‹_› rfl) (by exact Pp ‹_› rfl) k2;have l2:LF (T++rS (1+k) [(f.1,f.2)]) (k+2):=by
   have:=(h.add (d:=fK 0 (rZ (uf f.2 [] false) f.2))).add (d:=fK 0 (.dict .ks (xU f.1 (1+k) false)));rw[show(1+((k+1:Nat):Int))=1+k+1 by rfl,jA]at this;exact this
  have r:=Nu fl (K:=K) (tl:=tl) (acc:=acc++[.list [e8 f.1,rf ((1+k)+1) 0]]) (y:=some (.d (.bytes f.1))) l2 (by exact VD▸h1) (by rw[dJ];show T.length+2+_<=_;exact VD▸h2) (by rw[dJ];show acc.length+1<=_;exact Nat.le_succ_of_le (kX ha)) λg hg=>hK g (.tail _ hg);rw[show(1+((k+2:Nat):Int))=1+k+2 by rfl,jA,jA]at r;have i1:∀{p:aH}{T:List (aG×D)},aC (.h 5) (.d (.bytes f.1)) (kU p T K)= .ok (.d (.bytes f.2)) (kU p T K):=λ{p T}=>by
   show bx (aJ K (.bytes f.1)) _=_;rw[k1];rfl
  exact UB rfl rfl (kF (aj (au (aj rfl rfl) rfl) (aj (au (aj rfl (aj rfl (aj (aN rfl rfl i1) rfl))) (bu e rfl rfl rfl rfl rfl)) rfl)) rfl rfl) (bR (by exact eG (cS ha (SD h1)) (by decide))) r
end
section
variable{n k m sp bD:Nat}{o os:az}{d:D}{v:V}{a b c x y z gr sd:Int}{s:List Int}{p p':aH}{fl:FL}{a0 a1 a2 a3 a4 a5:Option V}{K T:List (aG×D)}{tl:bL}
theorem Qa(F:Ab fl):cV false .ks (bW (ai (.str "Names")) (a_ [8,9,10] (bH (af 4)) (aU 9) bN (RX (bH (af 9)) (aU 10) bN (af 10)) [] bh) fV) (a0::a1::a2::a3::some (.d (FJ fl))::a5::List.replicate 14 none) o= .ok (.d (nM fl 0)) o:=by cases F<;>kernel_rfl
theorem Nt(F:Ab fl):a_ [8,9] (bH (af 4)) (aU 9) bN (gu (cV false .ks (bW (ai (.str "Limits")) (d8 false (aa (aB aC (af 9) (ai (.int 0))) (aa (aB aC (af 9) (ai (.int 0))) ak))) (bW (ai (.str "Names")) (af 9) fV)))) [] bh (a0::a1::a2::a3::some (.d (FJ fl))::a5::List.replicate 14 none) o= .ok (.d (.list ((su 1 fl).map Bd))) o:=by cases F<;>kernel_rfl
theorem P_(F:Ab fl):cV false .ks (bW (ai (.str "Kids")) (eW (aE gi (af 5) (ai (.int 1))) (a_ [8,9] (bH (af 7)) (aU 9) bN (gu (aO aI (run (n+2) 67) (af 1) (aa (af 9) ak))) [] bh) (af 7)) fV) (a0::some (.bV 3 (.h 4))::a2::a3::a4::some (.d (.int 1))::none::some (.d (.list ((su 1 fl).map Bd)))::List.replicate 12 none) (kU (EH s sp gr sd) (f_ fl 0 1) K)= .ok (.d (nM fl 1)) (kU (EH s sp gr sd) (f_ fl 1 1) K):=by cases F<;>kernel_rfl
theorem Qc(F:Ab fl)(hf:bD < 3):aO aI (run (n+2) 67) (af 1) (aa (af 6) ak) (a0::some (.bV 3 (.h 4))::a2::a3::a4::a5::some (.d (nM fl bD))::tl) (kU (EH s sp gr sd) (f_ fl bD 1) K)= .ok (.d (lZ fl bD 0)) (kU (EH s sp gr sd) (f_ fl bD 0) K):=by
 rcases KO hf with rfl |rfl |rfl
 ·cases F<;>kernel_rfl
 ·cases F<;>kernel_rfl
 ·cases F<;>kernel_rfl
theorem j8(P:PO k p)(h:fn 54 (run n) [.h 2, .d (.int x)] [.tab 0, .tab 1,p]= .ok (.d d) [.tab 0, .tab 1,p'])(hf:os.all aH.aY=true):run (n+1) 54 [.h 2, .d (.int x)] (.tab 0:: .tab 1::p::os)= .ok (.d d) (.tab 0:: .tab 1::p'::os):=V_ (v:= .h 2) P h hf
theorem kf(F:Ab fl)(f:List UInt8×List UInt8)(hf:f ∈ fl):aJ (xS fl) (.bytes f.1)=some (.bytes f.2):=by
 cases F with
 |one w=>cases dQ.mp hf;kernel_rfl
 |two w v=>
  rcases cN.mp hf with rfl |hf;kernel_rfl
  cases dQ.mp hf;kernel_rfl
 |jm w v u=>
  rcases cN.mp hf with rfl |hf;kernel_rfl
  rcases cN.mp hf with rfl |hf;kernel_rfl
  cases dQ.mp hf;kernel_rfl
inductive XN(n:Nat)(k:Nat)(p:aH)(fl:FL):Prop
 |mk (bD flag p') (_:bD < 3) (_:flag < 2) (_:PO (k+2) p') (_:fn 59 (run (n+2)) [.h 2, .bV 3 (.h 4), .h 5] (kU p [xO] (xS fl))= .ok (.d (lZ fl bD flag)) (kU p' (f_ fl bD flag) (xS fl)))
theorem XQ(F:Ab fl)(hw:∀f ∈ fl,f.2.length<=3)(P:PO k p)(hk:k<=800):XN n k p fl:=by
 obtain⟨bD,p1,hf,P1,e1⟩:=HV (m:=3) (.inr (.inl rfl)) (by exact qq ‹_› rfl) P;obtain⟨flag,p2,hg,P2,e2⟩:=HV (m:=2) (.inl rfl) (by exact pA ‹_› rfl) P1;refine⟨bD,flag,p2,hf,hg,P2, ?_⟩;have l3:fl.length<=3:=by cases F<;>exact g7 rfl
 have sr:c_ (.h 5) (kU p [xO] (xS fl))= .ok (.d (.list (fl.map λf=> .bytes f.1))) (kU p [xO] (xS fl)):=by cases F<;>kernel_rfl
 have ne:∀{o:az},gi (.d (.list (fl.map λf=> .bytes f.1))) (.d (.list [])) o= .ok (.d (.bool false)) o:=λ{o}=>by cases F<;>rfl
 have VN:a_ [8,9] (bH (af 3)) (aU 9) bN (gu (d8 false (aa (aq (jZ .string 2 [.bool false]) (aa (af 9) ak)) (aa (aq (run (n+2) 58) (aa (af 1) (aa (af 9) (aa (aB aC (af 2) (af 9)) ak)))) ak)))) [] bh (some (.h 2)::some (.bV 3 (.h 4))::some (.h 5)::some (.d (.list (fl.map λf=> .bytes f.1)))::List.replicate 16 none) (kU p [xO] (xS fl))= .ok (.d (FJ fl)) (kU p ([xO]++rS 1 fl) (xS fl)):=by
  cases P with
  |mk s sp gr sd h1 h2 h3 h4=>
  have:=Nu (n:=n) (s:=s) (sp:=sp) (gr:=gr) (sd:=sd) (x3:=some (.d (.list (fl.map λf=> .bytes f.1)))) (K:=xS fl) (tl:=List.replicate 10 none) fl (k:=0) (T:=[xO]) (acc:=[]) (y:=none) ⟨λa h=>absurd h (Nat.not_lt_zero a),λj h1 h2=>by rw[cT,aZ (λe=>by have:=aG.int.inj e;exact absurd (Int.ofNat.inj (Int.add_left_cancel ((rfl:(1:Int)+(39:Nat)=40).trans this))) (um (Nat.lt_succ_of_le h2)))];rfl⟩ (by exact KI ‹_› rfl) (by show 1+_<=_;exact KI ‹_› rfl) (Nat.le_refl _) λf hf=>⟨kf F f hf,hw f hf⟩;exact i6 (jB rfl (congrArg some (dB (f:=λf:List UInt8×List UInt8=>D.bytes f.1) (g:=V.d) (l:=fl)))) this
 have e0:[xO]++rS 1 fl=f_ fl 0 1:=by
  show _=xO::(rS 1 fl++[]);rw[fC];rfl
 rw[e0]at VN;refine cps λPP kk=> ?_;obtain⟨s1,sp1,gr1,sd1,q1⟩:∃s sp gr sd,p1=EH s sp gr sd:=by cases P1;exact⟨_,_,_,_,rfl⟩
 obtain⟨s2,sp2,gr2,sd2,q2⟩:∃s sp gr sd,p2=EH s sp gr sd:=by cases P2;exact⟨_,_,_,_,rfl⟩
 refine kk ?_;clear kk;have iP:∀{a2 a3 a4 a5:Option V}{tl:bL},eW (aE gi (aq (run (n+2) 54) (aa (af 0) (aa (ai (.int 2)) ak))) (ai (.int 0))) (aO aI (run (n+2) 67) (af 1) (aa (af 6) ak)) (af 6) (some (.h 2)::some (.bV 3 (.h 4))::a2::a3::a4::a5::some (.d (nM fl bD))::tl) (kU p1 (f_ fl bD 1) (xS fl))= .ok (.d (lZ fl bD flag)) (kU p2 (f_ fl bD flag) (xS fl)):=λ{a2 a3 a4 a5 tl}=>by
  rcases CC hg with rfl |rfl
  ·exact mj (aQ (au (aj rfl (aj rfl rfl)) (j8 P1 (e2 (n+1)) (by rfl))) rfl rfl rfl) (by rw[q2];exact Qc F hf)
  ·exact lu (aQ (au (aj rfl (aj rfl rfl)) (j8 P1 (e2 (n+1)) (by rfl))) rfl rfl rfl) rfl
 rcases KO hf with rfl |rfl |rfl
 ·exact dH rfl (fh (o1:=kU p2 (f_ fl 0 flag) (xS fl)) (v:= .d (lZ fl 0 flag)) (aA (asg (au (aj rfl rfl) sr)) (aA (asg VN) (aA (ez (aQ rfl (kF rfl rfl rfl) ne rfl) rfl) (aA (asg (au (aj rfl (aj rfl rfl)) (j8 P (e1 (n+1)) (by rfl)))) (aA (ly (aQ rfl rfl rfl rfl) (aA (asg (Qa F)) rfl)) (bG (bZ iP))))))) rfl rfl)
 ·exact dH rfl (fh (o1:=kU p2 (f_ fl 1 flag) (xS fl)) (v:= .d (lZ fl 1 flag)) (aA (asg (au (aj rfl rfl) sr)) (aA (asg VN) (aA (ez (aQ rfl (kF rfl rfl rfl) ne rfl) rfl) (aA (asg (au (aj rfl (aj rfl rfl)) (j8 P (e1 (n+1)) (by rfl)))) (aA (ez (aQ rfl rfl rfl rfl) (aA (asg (Nt F)) (aA (asg (q1▸P_ F)) rfl))) (bG (bZ iP))))))) rfl rfl)
 ·exact dH rfl (fh (o1:=kU p2 (f_ fl 2 flag) (xS fl)) (v:= .d (lZ fl 2 flag)) (aA (asg (au (aj rfl rfl) sr)) (aA (asg VN) (aA (ez (aQ rfl (kF rfl rfl rfl) ne rfl) rfl) (aA (asg (au (aj rfl (aj rfl rfl)) (j8 P (e1 (n+1)) (by rfl)))) (aA (ez (aQ rfl rfl rfl rfl) (aA (asg (Nt F)) (aA (asg (Bw (sy rfl (lu (aQ rfl rfl rfl rfl) rfl) rfl) rfl rfl rfl)) rfl))) (bG (bZ iP))))))) rfl rfl)
theorem Ur:fn 59 (run (n+2)) [.h 2, .bV 3 (.h 4), .h 5] (kU p [xO] [])= .ok (.d .none) (kU p [xO] []):=by kernel_rfl
end
noncomputable abbrev Y5(c:aD):DS:=(ao (ay 6 (cV true .ks (bW (ai (.str "Dests")) (cV false .ks (bW (ai (.str "Names")) (d8 false (aa (aq (jZ .string 2 [.bool false]) (aa (ai (.bytes [120])) ak)) (aa (ai (.int 7)) ak))) fV)) fV))) (ao (dw (aE iZ (af 4) (ai (.none))) (ao (iu (af 4) (af 6) (ai (.str "EmbeddedFiles"))) av) av) (ao (ay 7 (cV true .ks (bW (ai (.str "Type")) (aq (jZ .name 1 []) (aa (ai (.str "Catalog")) ak)) (bW (ai (.str "Lang")) (aq (jZ .string 2 [.bool false]) (aa (ai (.bytes [101,110])) ak)) fV)))) (ao (dw (aE gi (af 5) (ai (.int 1))) (ao (cU (aO aI (c 66) (af 1) (aa (ai (.int 60)) (aa (ai (.int 0)) (aa (af 6) ak))))) (ao (iu (aq (jZ .reference 2 []) (aa (ai (.int 60)) (aa (ai (.int 0)) ak))) (af 7) (ai (.str "Names"))) av)) (ao (dw (aE gi (af 5) (ai (.int 2))) (ao (cU (aO aI (c 66) (af 1) (aa (ai (.int 60)) (aa (ai (.int 3)) (aa (aq (jZ .reference 2 []) (aa (ai (.int 61)) (aa (ai (.int 0)) ak))) ak))))) (ao (cU (aO aI (c 66) (af 1) (aa (ai (.int 61)) (aa (ai (.int 0)) (aa (af 6) ak))))) (ao (iu (aq (jZ .reference 2 []) (aa (ai (.int 60)) (aa (ai (.int 3)) ak))) (af 7) (ai (.str "Names"))) av))) (ao (dw (pL (aE gi (af 5) (ai (.int 0))) (pL (aE iZ (af 4) (ai (.none))) gR)) (ao (iu (af 6) (af 7) (ai (.str "Names"))) av) av) av)) av)) (ao (cU (aO aI (c 66) (af 1) (aa (ai (.int 70)) (aa (ai (.int 2)) (aa (af 7) ak))))) (ao (iu (aq (jZ .reference 2 []) (aa (ai (.int 70)) (aa (ai (.int 2)) ak))) (bq "trailer" (af 1)) (ai (.str "Root"))) (ao (aX (pK (aa (af 1) (aa (af 2) ak)))) av)))))))
noncomputable def gC(w:Nat)(tr:Option D):lT:=match w with
 | 0=> .inl true
 | 1=> .one
 | 2=> .two
 |_=>match tr with
  |none=> .no
  |some _=> .inl true
noncomputable def qK(T:List (aG×D))(tr:Option D):lT->List (aG×D)
 | .one=>b_ (b_ T (.int 60) (fK 0 (.dict .ks (Nl true tr)))) (.int 70) (fK 2 (.dict .ks (w_ (rf 60 0))))
 | .two=>b_ (b_ (b_ T (.int 60) (fK 3 (rf 61 0))) (.int 61) (fK 0 (.dict .ks (Nl true tr)))) (.int 70) (fK 2 (.dict .ks (w_ (rf 60 3))))
 | .inl _=>b_ T (.int 70) (fK 2 (.dict .ks (w_ (.dict .ks (Nl true tr)))))
 | .no=>b_ T (.int 70) (fK 2 (.dict .ks Bl))
section
variable{n k m sp bD:Nat}{o os:az}{d t:D}{v:V}{i g:Int}{s:List Int}{p p' x6 x7:aH}{fl:FL}{a0 a1 a2 a3 a4 a5:Option V}{K T R N:List (aG×D)}{tl:bL}{tr:Option D}
noncomputable abbrev O8(p:aH)(T R K:List (aG×D))(x6 x7:aH):az:=[.tab 0, .tab 1,p, .dict .ki T, .dict .ks R, .dict .kb K,x6,x7]
theorem YI(hp:p.aY=true)(h6:x6.aY=true)(h7:x7.aY=true):(O8 p T R K x6 x7).all aH.aY=true:=by
 show(p.aY&&(x6.aY&&(x7.aY&&true)))=true;rw[hp,h6,h7];rfl
theorem UK(ht:c6 T.length=true)(hp:p.aY=true)(h6:x6.aY=true)(h7:x7.aY=true):run (n+1) 66 [.bV 3 (.h 4), .d (.int i), .d (.int g), .d d] (O8 p T R K x6 x7)= .ok (.d .none) (O8 p (b_ T (.int i) (fK g d)) R K x6 x7):=bu (Um ht) rfl rfl rfl (YI hp h6 h7) rfl
theorem Ul(ht:c6 T.length=true):fn 66 (run n) [sh, .d (.int i), .d (.int g), .h 4] [.tab 0, .tab 1, .dict .ki T, .dict .ks R, .dict .ks N]= .ok (.d .none) [.tab 0, .tab 1, .dict .ki (b_ T (.int i) (fK g (.dict .ks N))), .dict .ks R, .dead]:=
 dH rfl (xh (aA (h_ (eH rfl rfl rfl) rfl rfl rfl (by show bz (c6 T.length) _=_;rw[ht];rfl)) rfl) rfl rfl)
theorem LJ(ht:c6 T.length=true)(hp:p.aY=true)(h7:x7.aY=true):run (n+1) 66 [.bV 3 (.h 4), .d (.int i), .d (.int g), .h 6] (O8 p T R K (.dict .ks N) x7)= .ok (.d .none) (O8 p (b_ T (.int i) (fK g (.dict .ks N))) R K .dead x7):=bu (Ul ht) rfl rfl rfl (YI hp rfl h7) rfl
theorem Yj(ht:c6 T.length=true)(hp:p.aY=true)(h6:x6.aY=true):run (n+1) 66 [.bV 3 (.h 4), .d (.int i), .d (.int g), .h 7] (O8 p T R K x6 (.dict .ks N))= .ok (.d .none) (O8 p (b_ T (.int i) (fK g (.dict .ks N))) R K x6 .dead):=bu (Ul ht) rfl rfl rfl (YI hp h6 rfl) rfl
theorem sN:lH (.h 6) (.d (.str "EmbeddedFiles")) t [.tab 0, .tab 1,p, .dict .ki T, .dict .ks R, .dict .kb K, .dict .ks (Nl true none)]= .ok () [.tab 0, .tab 1,p, .dict .ki T, .dict .ks R, .dict .kb K, .dict .ks (Nl true (some t))]:=by kernel_rfl
theorem sH:lH (.h 7) (.d (.str "Names")) t (O8 p T R K x6 (.dict .ks Bl))= .ok () (O8 p T R K x6 (.dict .ks (w_ t))):=by kernel_rfl
theorem sR:lH (.h 4) (.d (.str "Root")) (rf 70 2) (O8 p T [] K x6 x7)= .ok () (O8 p T R0 K x6 x7):=by kernel_rfl
theorem d6:cV true .ks (bW (ai (.str "Dests")) (cV false .ks (bW (ai (.str "Names")) (d8 false (aa (aq (jZ .string 2 [.bool false]) (aa (ai (.bytes [120])) ak)) (aa (ai (.int 7)) ak))) fV)) fV) loc (kU p T K)= .ok (.h 6) [.tab 0, .tab 1,p, .dict .ki T, .dict .ks [], .dict .kb K, .dict .ks (Nl true none)]:=by kernel_rfl
theorem d7:cV true .ks (bW (ai (.str "Type")) (aq (jZ .name 1 []) (aa (ai (.str "Catalog")) ak)) (bW (ai (.str "Lang")) (aq (jZ .string 2 [.bool false]) (aa (ai (.bytes [101,110])) ak)) fV)) loc [.tab 0, .tab 1,p, .dict .ki T, .dict .ks [], .dict .kb K,x6]= .ok (.h 7) (O8 p T [] K x6 (.dict .ks Bl)):=by kernel_rfl
noncomputable abbrev NN(t:D):Prop:=∀o:az,iZ (.d t) (.d .none) o= .ok (.d (.bool true)) o
inductive PZ(n:Nat)(p:aH)(a3:Option V)(K:List (aG×D))(T:List (aG×D))(tr:Option D)(way:Nat):Prop
 |mk (x6 x7 loc) (_:Y5 (run (n+1)) (some (.h 2)::some (.bV 3 (.h 4))::some (.h 5)::a3::some (.d (tr.getD .none))::some (.d (.int (way:Int)))::List.replicate 14 none) (kU p T K)= .ok (.ret loc) (O8 p (qK T tr (gC way tr)) R0 K x6 x7)) (_:x6.aY=true) (_:x7.aY=true) (_:sA [.bV 3 (.h 4), .h 5]=some loc)
theorem Uq(hw:way < 4)(hn:∀t,tr=some t->NN t)(hp:p.aY=true)(ht:T.length<=40):PZ n p a3 K T tr way:=by
 have h1:c6 T.length=true:=bR (by exact pA ‹_› rfl);have h2:∀{i:Int}{d:D},c6 (b_ T (.int i) d).length=true:=λ{i d}=>bR (eG iK (by exact EI 2 ‹_› rfl));have h3:∀{i j:Int}{d e:D},c6 (b_ (b_ T (.int i) d) (.int j) e).length=true:=λ{i j d e}=>bR (eG (cS iK (kX iK)) (by exact eG (kX (kX ht)) (by decide)));have iP:∀{T':List (aG×D)}{x6:aH}{H:List (aG×D)}{a3 a4 a5 a6:Option V}{tl:bL},c6 T'.length=true->x6.aY=true->ao (cU (aO aI (run (n+1) 66) (af 1) (aa (ai (.int 70)) (aa (ai (.int 2)) (aa (af 7) ak))))) (ao (iu (aq (jZ .reference 2 []) (aa (ai (.int 70)) (aa (ai (.int 2)) ak))) (bq "trailer" (af 1)) (ai (.str "Root"))) (ao (aX (pK (aa (af 1) (aa (af 2) ak)))) av)) (some (.h 2)::some (.bV 3 (.h 4))::some (.h 5)::a3::a4::a5::a6::some (.h 7)::tl) (O8 p T' [] K x6 (.dict .ks H))= .ok (.ret (((sA [.bV 3 (.h 4), .h 5]).getD (.d .none)))) (O8 p (b_ T' (.int 70) (fK 2 (.dict .ks H))) R0 K x6 .dead):=λ{T' x6 H a3 a4 a5 a6 tl} ht' h6=>
  aA (iX (aL rfl rfl (aj rfl (aj rfl (aj rfl rfl))) (Yj ht' hp h6))) (aA (h_ rfl (di rfl rfl) rfl rfl sR) (bG (bZ (gj (aj rfl (aj rfl rfl)) rfl))))
 cases tr with
 |none=>
  rcases KN hw with rfl |rfl |rfl |rfl
  ·exact⟨_,_,_,aA (asg d6) (aA (ez (aQ rfl rfl rfl rfl) rfl) (aA (asg d7) (aA (ez (aQ rfl rfl rfl rfl) (aA (ez (aQ rfl rfl rfl rfl) (aA (ly (VU (aQ rfl rfl rfl rfl)) (aA (h_ rfl rfl rfl rfl sH) rfl)) rfl)) rfl)) (iP h1 rfl)))),rfl,rfl,rfl⟩
  ·exact⟨_,_,_,aA (asg d6) (aA (ez (aQ rfl rfl rfl rfl) rfl) (aA (asg d7) (aA (ly (aQ rfl rfl rfl rfl) (aA (iX (aL rfl rfl (aj rfl (aj rfl (aj rfl rfl))) (LJ h1 hp rfl))) (aA (h_ rfl rfl rfl rfl sH) rfl))) (iP h2 rfl)))),rfl,rfl,rfl⟩
  ·exact⟨_,_,_,aA (asg d6) (aA (ez (aQ rfl rfl rfl rfl) rfl) (aA (asg d7) (aA (ez (aQ rfl rfl rfl rfl) (aA (ly (aQ rfl rfl rfl rfl) (aA (iX (aL rfl rfl (aj rfl (aj rfl (aj (au (aj rfl (aj rfl rfl)) rfl) rfl))) (UK h1 hp rfl rfl))) (aA (iX (aL rfl rfl (aj rfl (aj rfl (aj rfl rfl))) (LJ h2 hp rfl))) (aA (h_ rfl rfl rfl rfl sH) rfl)))) rfl)) (iP h3 rfl)))),rfl,rfl,rfl⟩
  ·exact⟨_,_,_,aA (asg d6) (aA (ez (aQ rfl rfl rfl rfl) rfl) (aA (asg d7) (aA (ez (aQ rfl rfl rfl rfl) (aA (ez (aQ rfl rfl rfl rfl) (aA (ez (wG (aQ rfl rfl rfl rfl) (wG (aQ rfl rfl rfl rfl) rfl)) rfl) rfl)) rfl)) (iP h1 rfl)))),rfl,rfl,rfl⟩
 |some t=>
  have nn:=hn t rfl;rcases KN hw with rfl |rfl |rfl |rfl
  ·exact⟨_,_,_,aA (asg d6) (aA (ly (aQ rfl rfl (nn _) rfl) (aA (h_ rfl rfl rfl rfl sN) rfl)) (aA (asg d7) (aA (ez (aQ rfl rfl rfl rfl) (aA (ez (aQ rfl rfl rfl rfl) (aA (ly (VU (aQ rfl rfl rfl rfl)) (aA (h_ rfl rfl rfl rfl sH) rfl)) rfl)) rfl)) (iP h1 rfl)))),rfl,rfl,rfl⟩
  ·exact⟨_,_,_,aA (asg d6) (aA (ly (aQ rfl rfl (nn _) rfl) (aA (h_ rfl rfl rfl rfl sN) rfl)) (aA (asg d7) (aA (ly (aQ rfl rfl rfl rfl) (aA (iX (aL rfl rfl (aj rfl (aj rfl (aj rfl rfl))) (LJ h1 hp rfl))) (aA (h_ rfl rfl rfl rfl sH) rfl))) (iP h2 rfl)))),rfl,rfl,rfl⟩
  ·exact⟨_,_,_,aA (asg d6) (aA (ly (aQ rfl rfl (nn _) rfl) (aA (h_ rfl rfl rfl rfl sN) rfl)) (aA (asg d7) (aA (ez (aQ rfl rfl rfl rfl) (aA (ly (aQ rfl rfl rfl rfl) (aA (iX (aL rfl rfl (aj rfl (aj rfl (aj (au (aj rfl (aj rfl rfl)) rfl) rfl))) (UK h1 hp rfl rfl))) (aA (iX (aL rfl rfl (aj rfl (aj rfl (aj rfl rfl))) (LJ h2 hp rfl))) (aA (h_ rfl rfl rfl rfl sH) rfl)))) rfl)) (iP h3 rfl)))),rfl,rfl,rfl⟩
  ·exact⟨_,_,_,aA (asg d6) (aA (ly (aQ rfl rfl (nn _) rfl) (aA (h_ rfl rfl rfl rfl sN) rfl)) (aA (asg d7) (aA (ez (aQ rfl rfl rfl rfl) (aA (ez (aQ rfl rfl rfl rfl) (aA (ly (wG (aQ rfl rfl rfl rfl) (VU (aQ rfl rfl (nn _) rfl))) (aA (h_ rfl rfl rfl rfl sH) rfl)) rfl)) rfl)) (iP h1 rfl)))),rfl,rfl,rfl⟩
end
inductive Ad:FL->List (aG×D)->Option D->List (aG×D)->Prop
 |nil:Ad [] [xO] none []
 |tree {fl:FL} (F:Ab fl) (hw:∀f ∈ fl,f.2.length<=3) {bD flag:Nat} (hf:bD < 3) (hg:flag < 2):Ad fl (f_ fl bD flag) (some (lZ fl bD flag)) (xS fl)
section
variable{n k m sp bD way:Nat}{o os:az}{d t:D}{v:V}{i g:Int}{s:List Int}{p p' x6 x7:aH}{fl:FL}{a0 a1 a2 a3 a4 a5:Option V}{K T R N:List (aG×D)}{tl:bL}{tr:Option D}{w:List UInt8}
theorem Qp(P:PO k p)(h:fn 56 (run n) [.h 2, .d (.int x)] [.tab 0, .tab 1,p]= .ok (.d d) [.tab 0, .tab 1,p'])(hf:os.all aH.aY=true):run (n+1) 56 [.h 2, .d (.int x)] (.tab 0:: .tab 1::p::os)= .ok (.d d) (.tab 0:: .tab 1::p'::os):=
 bu h rfl rfl rfl (by show(p.aY&&os.all aH.aY)=true;rw[P.aY,hf];rfl) (by
  show aR.ok (V.d d) (.tab 0:: .tab 1::p'::(os++[]))=_;rw[fC])
theorem c59(hp:p.aY=true)(h:fn 59 (run n) [.h 2, .bV 3 (.h 4), .h 5] (kU p [xO] K)= .ok (.d d) (kU p' T K)):run (n+1) 59 [.h 2, .bV 3 (.h 4), .h 5] (kU p [xO] K)= .ok (.d d) (kU p' T K):=
 bu h rfl rfl rfl (by show(p.aY&&true)=true;rw[hp];rfl) rfl
theorem p40(hp:p.aY=true):run (n+1) 66 [.bV 3 (.h 4), .d (.int 40), .d (.int 0), .d (.list [.int 1, .int 2])] (kU p [] K)= .ok (.d .none) (kU p [xO] K):=bu (Um (T:=[]) (R:=[]) rfl) rfl rfl rfl (by show(p.aY&&true)=true;rw[hp];rfl) rfl
set_option tactic.hygienic true in
theorem Lr(h:Ad fl T tr K):T.length<=40:=by
 cases h with
 |nil=>exact g7 rfl
 |tree F hw hf hg=>
  rename_i bD flag;clear hw;rcases KO hf with rfl |rfl |rfl<;>rcases CC hg with rfl |rfl<;>cases F<;>exact g7 rfl
set_option tactic.hygienic true in
theorem Qj(h:Ad fl T tr K):∀t,tr=some t->NN t:=λt e=>by
 cases h with
 |nil=>cases e
 |tree F hw hf hg=>
  rename_i bD flag;cases e;rcases CC hg with rfl |rfl
  ·exact λZ=>rfl
  ·rcases KO hf with rfl |rfl |rfl<;>exact λZ=>rfl
inductive P7(n:Nat)(k:Nat)(p:aH)(fl:FL)(a3:Option V)(K:List (aG×D)):Prop
 |mk (p2 T tr way x6 x7) (_:way < 4) (_:PO (k+3) p2) (_:Ad fl T tr K) (_:x6.aY=true) (_:x7.aY=true) (_:ao (cU (aO aI (run (n+3) 66) (af 1) (aa (ai (.int 40)) (aa (ai (.int 0)) (aa (d8 false (aa (ai (.int 1)) (aa (ai (.int 2)) ak))) ak))))) (ao (dN (tV [4,5]) (pK (aa (aq (run (n+3) 59) (aa (af 0) (aa (af 1) (aa (af 2) ak)))) (aa (aq (run (n+3) 54) (aa (af 0) (aa (ai (.int 4)) ak))) ak)))) (Y5 (run (n+3)))) (some (.h 2)::some (.bV 3 (.h 4))::some (.h 5)::a3::List.replicate 16 none) (kU p [] K)= .ok (.ret (.pair (.bV 3 (.h 4)) (.h 5))) (O8 p2 (qK T tr (gC way tr)) R0 K x6 x7))
theorem CY(P:PO k p)(hk:k<=700)(h:∃p1 T tr,PO (k+2) p1/\Ad fl T tr K/\fn 59 (run (n+2)) [.h 2, .bV 3 (.h 4), .h 5] (kU p [xO] K)= .ok (.d (tr.getD .none)) (kU p1 T K)):P7 n k p fl a3 K:=by
 refine cps λPP kk=> ?_;obtain⟨p1,T,tr,P1,D0,e1⟩:=h;obtain⟨way,p2,hw,P2,e2⟩:=HV (m:=4) (.inr (.inr (.inl rfl))) (by exact EI 2 ‹_› rfl) P1;obtain⟨x6,x7,loc,e3,f6,f7,el⟩:=Uq (n:=n+2) (a3:=a3) (K:=K) hw (Qj D0) P2.aY (Lr D0);refine kk ?_;clear kk;cases el;exact⟨p2,T,tr,way,x6,x7,hw,P2,D0,f6,f7,aA (iX (aL rfl rfl (aj rfl (aj rfl (aj (kF rfl rfl rfl) rfl))) (p40 P.aY))) (aA (lW (gj (aj (au (aj rfl (aj rfl (aj rfl rfl))) (c59 P.aY e1)) (aj (au (aj rfl (aj rfl rfl)) (j8 P1 (e2 (n+2)) (by rfl))) rfl)) rfl) rfl) e3)⟩
inductive XM(n:Nat)(k:Nat)(p:aH):Prop
 |mk (p2 fl K T tr way x6 x7) (_:way < 4) (_:PO (k+30) p2) (_:Ad fl T tr K) (_:x6.aY=true) (_:x7.aY=true) (_:fn 60 (run (n+3)) [.h 2] [.tab 0, .tab 1,p]= .ok (.pair (.bV 3 (.h 4)) (.h 5)) (O8 p2 (qK T tr (gC way tr)) R0 K x6 x7))
theorem f60(P:PO k p)(hk:k<=300):XM n k p:=by
 obtain⟨c,p1,hc,P1,e1⟩:=HV (m:=4) (.inr (.inr (.inl rfl))) (by exact qq ‹_› rfl) P;obtain⟨w1,q1,l1,Q1,g1⟩:=V5 (n:=n+1) P1 (by exact pA ‹_› rfl);obtain⟨w2,q2,l2,Q2,g2⟩:=V5 (n:=n+1) Q1 (by exact EI 8 ‹_› rfl);obtain⟨w3,q3,l3,Q3,g3⟩:=V5 (n:=n+1) Q2 (by exact EI 15 ‹_› rfl);have s1:lH (.h 5) (.d (.bytes [97])) (.bytes w1) (kU q1 [] [])= .ok () (kU q1 [] [(.bytes [97], .bytes w1)]):=by kernel_rfl
 have s2:lH (.h 5) (.d (.bytes [98])) (.bytes w2) (kU q2 [] [(.bytes [97], .bytes w1)])= .ok () (kU q2 [] [(.bytes [97], .bytes w1),(.bytes [98], .bytes w2)]):=by kernel_rfl
 have s3:lH (.h 5) (.d (.bytes [97,98])) (.bytes w3) (kU q3 [] [(.bytes [97], .bytes w1),(.bytes [98], .bytes w2)])= .ok () (kU q3 [] [(.bytes [97], .bytes w1),(.bytes [98], .bytes w2),(.bytes [97,98], .bytes w3)]):=by kernel_rfl
 have h0:∀{loc:bL},pK (aa (aq (i7 mz) (aa (dh true (.dict .ki [])) (aa (dh true (.dict .ks [])) ak))) (aa (dh true (.dict .kb [])) ak)) loc [.tab 0, .tab 1,p]= .ok (.pair (.bV 3 (.h 4)) (.h 5)) (kU p [] []):=λ{loc}=>by kernel_rfl
 rcases KN hc with rfl |rfl |rfl |rfl
 ·obtain⟨p2,T,tr,way,x6,x7,r1,r2,r3,r4,r5,r6⟩:=CY (n:=n) (a3:=none) P1 (by exact pA ‹_› rfl) ⟨p1,[xO],none,P1.up (by exact fN _ 2), .nil,Ur⟩;exact⟨p2,[],[],T,tr,way,x6,x7,r1,r2.up (by exact Rl 4 rfl),r3,r4,r5,dH rfl (fh (aA (lW h0 rfl) (aA (mw (oh (r:=(0,0,1)) (aj (au (aj rfl (aj rfl rfl)) (j8 P (e1 (n+2)) (by rfl))) rfl) rfl rfl) rfl) (r6))) rfl rfl)⟩
 ·have hw:∀f ∈ ([([97],w1)]:FL),f.2.length<=3:=λf hf=>by cases dQ.mp hf;exact l1
  obtain⟨bD,flag,p3,hf,hg,P3,e⟩:=XQ (n:=n) (.one w1) hw Q1 (by exact EI 8 ‹_› rfl);obtain⟨p2,T,tr,way,x6,x7,r1,r2,r3,r4,r5,r6⟩:=CY (n:=n) (a3:=some (.d (.int 0))) Q1 (by exact EI 8 ‹_› rfl) ⟨p3,_,_,P3, .tree (.one w1) hw hf hg,e⟩;exact⟨p2,_,_,T,tr,way,x6,x7,r1,r2.up (by exact Rl 11 rfl),r3,r4,r5,dH rfl (fh (aA (lW h0 rfl) (aA (mw (oh (r:=(0,1,1)) (aj (au (aj rfl (aj rfl rfl)) (j8 P (e1 (n+2)) (by rfl))) rfl) rfl rfl) (fH (vs:=[]) rfl (aA (h_ (au (aj rfl (aj rfl rfl)) (Qp P1 g1 (by rfl))) rfl (aN rfl rfl rfl) rfl s1) rfl) rfl)) r6)) rfl rfl)⟩
 ·have hw:∀f ∈ ([([97],w1),([98],w2)]:FL),f.2.length<=3:=λf hf=>by
   rcases cN.mp hf with rfl |hf;exact l1
   cases dQ.mp hf;exact l2
  obtain⟨bD,flag,p3,hf,hg,P3,e⟩:=XQ (n:=n) (.two w1 w2) hw Q2 (by exact EI 15 ‹_› rfl);obtain⟨p2,T,tr,way,x6,x7,r1,r2,r3,r4,r5,r6⟩:=CY (n:=n) (a3:=some (.d (.int 1))) Q2 (by exact EI 15 ‹_› rfl) ⟨p3,_,_,P3, .tree (.two w1 w2) hw hf hg,e⟩;exact⟨p2,_,_,T,tr,way,x6,x7,r1,r2.up (by exact Rl 18 rfl),r3,r4,r5,dH rfl (fh (aA (lW h0 rfl) (aA (mw (oh (r:=(0,2,1)) (aj (au (aj rfl (aj rfl rfl)) (j8 P (e1 (n+2)) (by rfl))) rfl) rfl rfl) (fH rfl (aA (h_ (au (aj rfl (aj rfl rfl)) (Qp P1 g1 (by rfl))) rfl (aN rfl rfl rfl) rfl s1) rfl) (fH (vs:=[]) rfl (aA (h_ (au (aj rfl (aj rfl rfl)) (Qp Q1 g2 (by rfl))) rfl (aN rfl rfl rfl) rfl s2) rfl) rfl))) r6)) rfl rfl)⟩
 ·have hw:∀f ∈ ([([97],w1),([97,98],w3),([98],w2)]:FL),f.2.length<=3:=λf hf=>by
   rcases cN.mp hf with rfl |hf;exact l1
   rcases cN.mp hf with rfl |hf;exact l3
   cases dQ.mp hf;exact l2
  obtain⟨bD,flag,p3,hf,hg,P3,e⟩:=XQ (n:=n) (.jm w1 w2 w3) hw Q3 (by exact EI 22 ‹_› rfl);obtain⟨p2,T,tr,way,x6,x7,r1,r2,r3,r4,r5,r6⟩:=CY (n:=n) (a3:=some (.d (.int 2))) Q3 (by exact EI 22 ‹_› rfl) ⟨p3,_,_,P3, .tree (.jm w1 w2 w3) hw hf hg,e⟩;exact⟨p2,_,_,T,tr,way,x6,x7,r1,r2.up (by exact Rl 25 rfl),r3,r4,r5,dH rfl (fh (aA (lW h0 rfl) (aA (mw (oh (r:=(0,3,1)) (aj (au (aj rfl (aj rfl rfl)) (j8 P (e1 (n+2)) (by rfl))) rfl) rfl rfl) (fH rfl (aA (h_ (au (aj rfl (aj rfl rfl)) (Qp P1 g1 (by rfl))) rfl (aN rfl rfl rfl) rfl s1) rfl) (fH rfl (aA (h_ (au (aj rfl (aj rfl rfl)) (Qp Q1 g2 (by rfl))) rfl (aN rfl rfl rfl) rfl s2) rfl) (fH (vs:=[]) rfl (aA (h_ (au (aj rfl (aj rfl rfl)) (Qp Q2 g3 (by rfl))) rfl (aN rfl rfl rfl) rfl s3) rfl) rfl)))) r6)) rfl rfl)⟩
end
noncomputable abbrev Z4(w v u:List UInt8):List FL:=[[([97],w)],[([97],w),([98],v)],[([97],w),([97,98],u),([98],v)]]
noncomputable def Dt(w v u:List UInt8):List (FL×Nat×Nat):=(Z4 w v u).flatMap λfl=>[0,1,2].flatMap λbD=>[(fl,bD,0),(fl,bD,1)]
noncomputable def Mp(w v u:List UInt8):List ((FL×Nat×Nat)×List UInt8):=(Dt w v u).flatMap λc=>(nn::c.1.map (λZ=>Z.1)).map λk=>(c,k)
section
variable{n k m sp bD flag way:Nat}{fl:FL}{H:List (aG×D)}{w v u:List UInt8}
theorem C6(F:Ab fl)(hf:bD < 3)(hg:flag < 2):∃w v u,(fl,bD,flag) ∈ Dt w v u:=by
 have h:∃w v u,fl ∈ Z4 w v u:=by
  cases F with
  |one w=>exact⟨w,[],[], .head _⟩
  |two w v=>exact⟨w,v,[], .tail _ (.head _)⟩
  |jm w v u=>exact⟨w,v,u, .tail _ (.tail _ (.head _))⟩
 obtain⟨w,v,u,h⟩:=h;refine⟨w,v,u, ?_⟩;unfold Dt;refine List.mem_flatMap.mpr ⟨fl,h,List.mem_flatMap.mpr ⟨bD, ?_, ?_⟩⟩
 ·rcases KO hf with rfl |rfl |rfl
  ·exact .head _
  ·exact .tail _ (.head _)
  ·exact .tail _ (.tail _ (.head _))
 ·rcases CC hg with rfl |rfl
  ·exact .head _
  ·exact .tail _ (.head _)
noncomputable abbrev oD(o:az)(d:D):aR V:= .ok (.d d) o
theorem Ot:(Dt w v u).map (λc=>fn 29 (run (n+8)) [sh, .d (lZ c.1 c.2.1 c.2.2), .d (.str "Names")] (O4 (f_ c.1 c.2.1 c.2.2++H) R0))=(Dt w v u).map λc=>oD (O4 (f_ c.1 c.2.1 c.2.2++H) R0) (.list ((su 1 c.1).map pr)):=by kernel_rfl
theorem Oz:(Mp w v u).map (λc=>fn 32 (run (n+8)) [sh, .d (lZ c.1.1 c.1.2.1 c.1.2.2), .d (.str "Names"), .d (.bytes c.2)] (O4 (f_ c.1.1 c.1.2.1 c.1.2.2++H) R0))=(Mp w v u).map λc=>oD (O4 (f_ c.1.1 c.1.2.1 c.1.2.2++H) R0) (oE (su 1 c.1.1) c.2):=by kernel_rfl
noncomputable def Y8(fl:FL)(bD:Nat):List (aG×D):=match nM fl bD with
 | .dict _ e=>e
 |_=>[]
theorem PU:(Dt w v u).map (λc=>aJ (f_ c.1 c.2.1 0++H) (.int (Ss c.1 c.2.1)))=(Dt w v u).map λc=>some (fK 0 (.dict .ks (Y8 c.1 c.2.1))):=by kernel_rfl
theorem FW(F:Ab fl):(su 1 fl).map (λZ=>Z.1)=fl.map (λZ=>Z.1):=by cases F<;>rfl
theorem Ij(h:c ∈ Dt w v u)(hx:x=nn\/x ∈ c.1.map (λZ=>Z.1)):(c,x) ∈ Mp w v u:=by
 unfold Mp;exact List.mem_flatMap.mpr ⟨c,h,cX.mpr ⟨x,hx.elim (λh=>h▸ .head _) (.tail _),rfl⟩⟩
end
section
variable{n k m sp bD flag way:Nat}{fl:FL}{H:List (aG×D)}{w v u:List UInt8}
theorem Ll(F:Ab fl):fl.length<=3:=by cases F<;>exact g7 rfl
theorem R2(F:Ab fl):(su 1 fl).length<=30:=by
 have:=congrArg List.length (FW F);rw[cO,cO]at this;exact this▸cS (Ll F) (by decide)
theorem tp0(hm:(fl,bD,flag) ∈ Dt w v u):fn 29 (run (n+8)) [sh, .d (lZ fl bD flag), .d (.str "Names")] (O4 (f_ fl bD flag++H) R0)= .ok (.d (.list ((su 1 fl).map pr))) (O4 (f_ fl bD flag++H) R0):=by
 have h:=List.map_inj_left.mp (Ot (n:=n) (w:=w) (v:=v) (u:=u) (H:=H)) (fl,bD,flag) hm;dsimp only at h;exact h
theorem tf0(hm:(fl,bD,flag) ∈ Dt w v u)(hx:x=nn\/x ∈ fl.map (λZ=>Z.1)):fn 32 (run (n+8)) [sh, .d (lZ fl bD flag), .d (.str "Names"), .d (.bytes x)] (O4 (f_ fl bD flag++H) R0)= .ok (.d (oE (su 1 fl) x)) (O4 (f_ fl bD flag++H) R0):=by
 have h:=List.map_inj_left.mp (Oz (n:=n) (w:=w) (v:=v) (u:=u) (H:=H)) ((fl,bD,flag),x) (Ij hm hx);dsimp only at h;exact h
theorem ft0(hm:(fl,bD,flag) ∈ Dt w v u)(hf:bD < 3)(hg:flag < 2):∃e,q_ (f_ fl bD flag++H) 1 (lZ fl bD flag) (.dict .ks e):=by
 rcases CC hg with rfl |rfl
 ·have h:=List.map_inj_left.mp (PU (w:=w) (v:=v) (u:=u) (H:=H)) (fl,bD,0) hm;dsimp only at h;exact⟨Y8 fl bD, .go h (.here λZ=>rfl)⟩
 ·rcases KO hf with rfl |rfl |rfl
  ·exact⟨_, .here λZ=>rfl⟩
  ·exact⟨_, .here λZ=>rfl⟩
  ·exact⟨_, .here λZ=>rfl⟩
theorem Wx(F:Ab fl)(hf:bD < 3)(hg:flag < 2):IJ (f_ fl bD flag++H) (some (lZ fl bD flag)) (su 1 fl):=by
 obtain⟨w,v,u,hm⟩:=C6 F hf hg;exact⟨(λh=>nomatch h),λt e=>by cases e;exact ft0 hm hf hg,λt e n=>by cases e;exact tp0 hm,λt e x hx n=>by cases e;exact tf0 hm (FW F▸hx),R2 F⟩
end
noncomputable abbrev En:=Int×Int×D×List (Int×Int)
noncomputable abbrev Sk:=Int×Int×List (Int×Int)
noncomputable abbrev eT(e:En):aG×D:=(.int e.1,fK e.2.1 e.2.2.1)
noncomputable abbrev eS(e:En):Sk:=(e.1,e.2.1,e.2.2.2)
noncomputable def Ka(S:List Sk)(i:Int):List (Int×Int):=((S.find? λe=>decide (e.1=i)).map λe=>e.2.2).getD []
noncomputable def AX(S:List Sk):List (Int×Int):=(S.filter λe=>decide (e.1≠40)).map λe=>(e.1,e.2.1)
noncomputable def V3(S:List Sk):Nat->List (Int×Int)->List (Int×Int)
 | 0,l=>l
 |k+1,l=>V3 S k (l++l.flatMap λp=>Ka S p.1)
noncomputable def Im(S:List Sk):Bool:=decide (S.map (λZ=>Z.1)).Nodup&&(decide (S.length<=14)&&(decide (((70,2):Int×Int) ∈ AX S)&&((S.all λe=>decide (e.1=40)||e.2.2.all λq=>decide (q ∈ AX S))&&(AX S).all λp=>decide (p ∈ V3 S 6 [(70,2)]))))
structure Rx(S:List Sk):Prop where
 nd:(S.map (λZ=>Z.1)).Nodup
 sz:S.length<=14
 bg:((70,2):Int×Int) ∈ AX S
 cl:∀e ∈ S,e.1≠40->∀q ∈ e.2.2,q ∈ AX S
 re:∀p ∈ AX S,p ∈ V3 S 6 [(70,2)]
theorem chS(h:Im S=true):Rx S:=by
 obtain⟨h1,h⟩:=bA h;obtain⟨h2,h⟩:=bA h;obtain⟨h3,h⟩:=bA h;obtain⟨h4,h5⟩:=bA h;refine⟨iD h1,iD h2,iD h3,λe he ne q hq=> ?_,λp hp=>iD (cZ.mp h5 p hp)⟩;rcases Bool.or_eq_true_iff.mp (cZ.mp h4 e he)with h |h
 ·exact absurd (iD h) ne
 ·exact iD (cZ.mp h q hq)
section
variable{S:List Sk}{L:List En}{k:Nat}
theorem CV{f:α->Int}:∀{S:List α},(S.map f).Nodup->e ∈ S->S.find? (λx=>decide (f x=f e))=some e
 |x::S,nd,h=>by
  obtain⟨n1,n2⟩:=fU.mp nd;rcases cN.mp h with rfl |h
  ·exact List.find?_cons_of_pos (p:=λx=>decide (f x=f e)) (cM rfl)
  ·rw[List.find?_cons_of_neg (p:=λx=>decide (f x=f e)) (by rw[decide_eq_true_iff];exact λq=>n1 (cX.mpr ⟨e,h,q.symm⟩))];exact CV n2 h
theorem rm:p ∈ AX S↔∃e ∈ S,e.1≠40/\p=(e.1,e.2.1):=by
 unfold AX;rw[cX];exact⟨λ⟨e,h,q⟩=>⟨e,(iE.mp h).1,iD (iE.mp h).2,q.symm⟩,λ⟨e,h,n,q⟩=>⟨e,iE.mpr ⟨h,cM n⟩,q.symm⟩⟩
theorem Rx.rf(c:Rx S){e:Sk}(h:e ∈ S):Ka S e.1=e.2.2:=by
 unfold Ka;rw[CV (f:=λe:Sk=>e.1) c.nd h];rfl
theorem Rx.ZY(c:Rx S):∀p ∈ AX S,∀q ∈ Ka S p.1,q ∈ AX S:=λp hp q hq=>by
 obtain⟨e,he,ne,rfl⟩:=rm.mp hp;rw[c.rf he]at hq;exact c.cl e he ne q hq
theorem HL(c:Rx S){P:Int×Int->Prop}(st:∀p ∈ AX S,P p->∀q ∈ Ka S p.1,P q):∀(k:Nat){l:List (Int×Int)},(∀p ∈ l,p ∈ AX S/\P p)->∀p ∈ V3 S k l,P p
 | 0,l,h,p,hp=>(h p hp).2
 |k+1,l,h,p,hp=>HL c st k (l:=l++l.flatMap λp=>Ka S p.1) (λq hq=>(gU.mp hq).elim (h q) λhq=>by
  obtain⟨r,hr,hq⟩:=List.mem_flatMap.mp hq;exact⟨c.ZY r (h r hr).1 q hq,st r (h r hr).1 (h r hr).2 q hq⟩) p hp
structure EnT(L:List En):Prop where
 wt:WT (L.map eT)
 sz:(L.map eT).length<=14
 ch:QI (L.map eT) (Ka (L.map eS)) (AX (L.map eS))
 ky:∀i,(∃d,aJ (L.map eT) (.int i)=some d)->i=40\/∃p ∈ AX (L.map eS),p.1=i
 no:∀p ∈ AX (L.map eS),p.1≠40
 tl:IK (L.map eT)
 at':∀e ∈ L,aJ (L.map eT) (.int e.1)=some (fK e.2.1 e.2.2.1)/\Ka (L.map eS) e.1=e.2.2.2
theorem Yb(h:Im (L.map eS)=true)(ob:∀e ∈ L,OB 8 e.2.2.1 e.2.2.2):EnT L:=by
 have c:=chS h;have n1:(L.map (λZ=>Z.1)).Nodup:=by
  have:=c.nd;rw[dB]at this;exact this
 have n2:((L.map eT).map (λZ=>Z.1)).Nodup:=by
  rw[dB];exact lR.mpr ((lR.mp n1).imp λh e=>h (aG.int.inj e))
 have at':∀e ∈ L,aJ (L.map eT) (.int e.1)=some (fK e.2.1 e.2.2.1)/\Ka (L.map eS) e.1=e.2.2.2:=λe he=>⟨fq n2 (cX.mpr ⟨e,he,rfl⟩),c.rf (e:=eS e) (cX.mpr ⟨e,he,rfl⟩)⟩;have fr:∀{i g d},aJ (L.map eT) (.int i)=some (fK g d)->∃e ∈ L,e.1=i/\e.2.1=g/\e.2.2.1=d:=λ{i g d} h=>by
  obtain⟨e,he,q⟩:=mM (iM h);clear h;cases q;exact⟨e,he,rfl,rfl,rfl⟩
 have sz:(L.map eT).length<=14:=by have:=c.sz;rw[cO]at this⊢;exact this
 have wt:WT (L.map eT):=⟨n2,by exact pA ‹_› rfl,λp hp=>by obtain⟨e,_,rfl⟩:=mM hp;exact⟨_,_,_,rfl⟩⟩;refine⟨wt,sz,⟨λi g d h=> ?_,λp hp=> ?_,c.bg,c.ZY,λP p0 st p hp=> ?_⟩,λi ⟨d,h⟩=> ?_,λp hp=> ?_,λi g d h=> ?_,at'⟩
 ·obtain⟨e,he,rfl,rfl,rfl⟩:=fr h;obtain⟨k,hk,z⟩:=ob e he;exact⟨k,by exact qq ‹_› rfl,by rw[(at' e he).2];exact z.rf⟩
 ·obtain⟨s,hs,ne,rfl⟩:=rm.mp hp;clear ne hp;obtain⟨e,he,rfl⟩:=mM hs;exact jq (at' e he).1
 ·exact HL c st 6 (l:=[(70,2)]) (λq hq=>by cases dQ.mp hq;exact⟨c.bg,p0⟩) p (c.re p hp)
 ·obtain⟨g,e',rfl⟩:=wt.at h;obtain⟨e,he,rfl,rfl,rfl⟩:=fr h
  by_cases q:e.1=40
  ·exact .inl q
  ·exact .inr ⟨(e.1,e.2.1),rm.mpr ⟨eS e,cX.mpr ⟨e,he,rfl⟩,q,rfl⟩,rfl⟩
 ·obtain⟨s,hs,ne,rfl⟩:=rm.mp hp;exact ne
 ·obtain⟨e,he,rfl,rfl,rfl⟩:=fr h;obtain⟨k,hk,z⟩:=ob e he;exact z.tl
end
noncomputable def ym:Int->FL->List En
 |_,[]=>[]
 |i,f::r=>(i,0,rZ (uf f.2 [] false) f.2,[])::(i+1,0, .dict .ks (xU f.1 i false),[(i,0)])::ym (i+2) r
noncomputable def VJ:Int->FL->List (Int×Int)
 |_,[]=>[]
 |j,_::r=>(j+1,0)::VJ (j+2) r
noncomputable def Xd:Int->FL->List (Int×Int)
 |_,[]=>[]
 |i,_::r=>(i,0)::Xd (i+1) r
noncomputable def Pz:Int->Int->FL->List En
 |_,_,[]=>[]
 |i,j,f::r=>(i,0,Bd (f.1,rf (j+1) 0),[(j+1,0)])::Pz (i+1) (j+2) r
noncomputable def VO(fl:FL):Nat->List (Int×Int)
 | 1=>Xd (Rn fl) fl
 |_=>VJ 1 fl
noncomputable def Y0(fl:FL)(bD:Nat):Nat->List (Int×Int)
 | 0=>[(Ss fl bD,0)]
 |_=>VO fl bD
noncomputable def Xb(fl:FL):Nat->List En
 | 1=>Pz (Rn fl) 1 fl
 |_=>[]
noncomputable abbrev Q8:En:=(40,0, .list [.int 1, .int 2],[])
noncomputable def DV(fl:FL)(bD:Nat):Nat->List En
 | 0=>Q8::(ym 1 fl++(Xb fl bD++[(Ss fl bD,0,nM fl bD,VO fl bD)]))
 |_=>Q8::(ym 1 fl++Xb fl bD)
noncomputable def o7(tr:Option D)(R:List (Int×Int)):lT->List En
 | .one=>[(60,0, .dict .ks (Nl true tr),R),(70,2, .dict .ks (w_ (rf 60 0)),[(60,0)])]
 | .two=>[(60,3,rf 61 0,[(61,0)]),(61,0, .dict .ks (Nl true tr),R),(70,2, .dict .ks (w_ (rf 60 3)),[(60,3)])]
 | .inl _=>[(70,2, .dict .ks (w_ (.dict .ks (Nl true tr))),R)]
 | .no=>[(70,2, .dict .ks Bl,[])]
section
variable{n k m sp bD flag way:Nat}{fl:FL}{H T:List (aG×D)}{w v u:List UInt8}{tr:Option D}{R:List (Int×Int)}{wy:lT}
theorem Kh(T5:aJ T (.int 60)=none)(V1:aJ T (.int 61)=none)(HK:aJ T (.int 70)=none):qK T tr wy=T++(o7 tr R wy).map eT:=by
 have g:∀{i j:Int}{d:D}{T:List (aG×D)},aJ T (.int j)=none->i≠j->aJ (T++[(.int i,d)]) (.int j)=none:=λ{i j d T} h ne=>by
  rw[pD,h,cT,aZ (λe=>ne (aG.int.inj e))];rfl
 cases wy with
 |one=>
  show b_ (b_ T (.int 60) _) (.int 70) _=_;rw[iL T5,iL (g HK (by decide)),jA];rfl
 |two=>
  show b_ (b_ (b_ T (.int 60) _) (.int 61) _) (.int 70) _=_;rw[iL T5,iL (g V1 (by decide)),iL (g (g HK (by decide)) (by decide)),jA,jA];rfl
 |inl b=>show b_ T (.int 70) _=_;rw[iL HK];rfl
 |no=>show b_ T (.int 70) _=_;rw[iL HK];rfl
theorem Kf:(Dt w v u).map (λc=>(f_ c.1 c.2.1 c.2.2,aJ (f_ c.1 c.2.1 c.2.2) (.int 60),aJ (f_ c.1 c.2.1 c.2.2) (.int 61),aJ (f_ c.1 c.2.1 c.2.2) (.int 70)))=(Dt w v u).map λc=>((DV c.1 c.2.1 c.2.2).map eT,none,none,none):=by kernel_rfl
theorem LG:(Dt w v u).all (λc=>([0,1,2,3]:List Nat).all λway=>Im ((DV c.1 c.2.1 c.2.2++o7 (some (lZ c.1 c.2.1 c.2.2)) (Y0 c.1 c.2.1 c.2.2) (gC way (some (lZ c.1 c.2.1 c.2.2)))).map eS))=true:=by kernel_rfl
theorem LD:([0,1,2,3]:List Nat).all (λway=>Im (([Q8]++o7 none [] (gC way none)).map eS))=true:=by kernel_rfl
noncomputable abbrev Vj(h:Nat)(d:D)(rs:List (Int×Int)):Prop:=∃k,k < 100/\Ob h k d rs
theorem wg:∀(fl:FL)(i:Int),∀e ∈ ym i fl,OB 8 e.2.2.1 e.2.2.2
 |f::fl,i,e,h=>by
  rcases cN.mp h with rfl |h
  ·obtain⟨k,hk,z⟩:=Gm (w:=f.2) (dg:=[]) (b:=false);exact⟨k,hk,dK z (by decide)⟩
  rcases cN.mp h with rfl |h
  ·obtain⟨k,hk,z⟩:=Gn (nm:=f.1) (t:=i) (b:=false);exact⟨k,hk,dK z (by decide)⟩
  ·exact wg fl (i+2) e h
theorem G2:Ob 3 7 (Bd (nm,rf j 0)) [(j,0)]:=
 ee (nv (K:=[.str "Limits", .str "Names"]) (vl:=[.list [e8 nm,e8 nm], .list [e8 nm,rf j 0]]) (λo=>by kernel_rfl) (by kernel_rfl) (by kernel_rfl) (by decide) rfl) (aV (jJ (aV iV (aV iV cD)) (by decide)) (aV (jJ (aV iV (aV jX cD)) (by decide)) cD))
theorem CF:∀(fl:FL)(i j:Int),∀e ∈ Pz i j fl,OB 8 e.2.2.1 e.2.2.2
 |f::fl,i,j,e,h=>by
  rcases cN.mp h with rfl |h
  ·exact⟨_,by decide,dK G2 (by decide)⟩
  ·exact CF fl (i+1) (j+2) e h
theorem Gi:∀(fl:FL)(i j:Int),JG 1 fl.length (Py i (su j fl)) (Xd i fl)
 | [],i,j=>cD
 |f::fl,i,j=>by
  have:=aV (jX (i:=i) (g:=0)) (Gi fl (i+1) (j+2));rw[ng]at this;exact this
theorem Gj:∀(fl:FL)(j:Int),JG 3 (7 * fl.length) ((su j fl).map Bd) (VJ j fl)
 | [],j=>cD
 |f::fl,j=>by
  have:=aV (G2 (nm:=f.1) (j:=j+1)) (Gj fl (j+2));rw[show 7+7 * fl.length=7 * (fl.length+1)by exact ng _ _]at this;exact this
theorem Gk:∀(fl:FL)(j:Int),JG 1 (2 * fl.length) (gX (su j fl)) (VJ j fl)
 | [],j=>cD
 |f::fl,j=>by
  have:=aV (iV (w:=f.1) (q:=false)) (aV (jX (i:=j+1) (g:=0)) (Gk fl (j+2)));rw[show 1+(1+2 * fl.length)=2 * (fl.length+1)by exact YU]at this;exact this
theorem A3(so:∀o:az,c_ (.d (.dict .ks [kv s x])) o= .ok (.d (.list [.str s])) o)(gx:aJ [kv s x] (.str s)=some x)(z:Ob h k x R)(nn:x.isNone=false):Ob (h+1) (k+0+1) (.dict .ks [kv s x]) R:=by
 have y:=aV z cD;rw[fC]at y;exact ee (K:=[.str s]) (vl:=[x]) ⟨so,rfl,by show[aJ [kv s x] (.str s)]=[some x];rw[gx],g7 rfl,λv hv=>by cases dQ.mp hv;exact nn⟩ y
theorem Ci(hl:fl.length<=3)(hf:bD < 3):Vj 5 (nM fl bD) (VO fl bD):=by
 rcases KO hf with rfl |rfl |rfl
 ·exact⟨_,by exact eG (GH (d:=2) (b:=8) hl rfl) (by decide),dK (A3 (λo=>by kernel_rfl) (by kernel_rfl) (jJ (Gk fl 1) (by exact KL ‹_› rfl)) rfl) (by decide)⟩
 ·exact⟨_,by exact eG (oV hl 2) (by decide),dK (A3 (λo=>by kernel_rfl) (by kernel_rfl) (jJ (Gi fl (Rn fl) 1) (by exact pA ‹_› rfl)) rfl) (by decide)⟩
 ·exact⟨_,by exact eG (GH (d:=2) (b:=23) hl rfl) (by decide),A3 (λo=>by kernel_rfl) (by kernel_rfl) (jJ (Gj fl 1) (by exact KL ‹_› rfl)) rfl⟩
theorem Oq(hl:fl.length<=3)(hf:bD < 3)(hg:flag < 2):Vj 5 (lZ fl bD flag) (Y0 fl bD flag)/\(lZ fl bD flag).isNone=false:=by
 rcases CC hg with rfl |rfl
 ·exact⟨⟨_,by decide,dK jX (by decide)⟩,rfl⟩
 ·refine⟨Ci hl hf, ?_⟩;rcases KO hf with rfl |rfl |rfl
  ·rfl
  ·rfl
  ·rfl
theorem OW(hl:fl.length<=3)(hf:bD < 3)(hg:flag < 2):∀e ∈ DV fl bD flag,OB 8 e.2.2.1 e.2.2.2:=by
 have Rq:OB 8 (.list [.int 1, .int 2]) []:=⟨_,by decide,dK Gq (by decide)⟩;have hk:∀e ∈ Xb fl bD,OB 8 e.2.2.1 e.2.2.2:=by
  rcases KO hf with rfl |rfl |rfl
  ·exact λe h=>nomatch h
  ·exact CF fl _ 1
  ·exact λe h=>nomatch h
 have hr:OB 8 (nM fl bD) (VO fl bD):=by
  obtain⟨k,h1,z⟩:=Ci hl hf;exact⟨k,by exact qq ‹_› rfl,dK z (by decide)⟩
 rcases CC hg with rfl |rfl
 ·intro e h;rcases cN.mp h with rfl |h
  ·exact Rq
  rcases gU.mp h with h |h
  ·exact wg fl 1 e h
  rcases gU.mp h with h |h
  ·exact hk e h
  ·cases dQ.mp h;exact hr
 ·intro e h;rcases cN.mp h with rfl |h
  ·exact Rq
  rcases gU.mp h with h |h
  ·exact wg fl 1 e h
  ·exact hk e h
theorem Sy(h:∀t,tr=some t->Vj 5 t R/\t.isNone=false)(h0:tr=none->R=[]):∃k,k < 120/\Ob 6 k (.dict .ks (Nl true tr)) R:=by
 cases tr with
 |none=>rw[h0 rfl];exact⟨_,by decide,dK (wI (ds:=true)) (by decide)⟩
 |some t=>
  obtain⟨⟨k,hk,z⟩,hn⟩:=h t rfl;have y:=MH (ds:=true) z (by decide) hn;rw[bw rfl]at y;exact⟨_,by exact vV (Nat.add_lt_add_right hk 5) (by decide),y⟩
theorem Kg(h:∀t,tr=some t->Vj 5 t R/\t.isNone=false)(h0:tr=none->R=[]):∀e ∈ o7 tr R wy,OB 8 e.2.2.1 e.2.2.2:=by
 obtain⟨k,hk,z⟩:=Sy h h0;have hn:OB 8 (.dict .ks (Nl true tr)) R:=⟨k,by exact qq ‹_› rfl,dK z (by decide)⟩;have hh:∀{i g:Int},OB 8 (.dict .ks (w_ (rf i g))) [(i,g)]:=λ{i g}=>⟨_,by decide,dK (Gp jX rfl (by decide)) (by decide)⟩;cases wy with
 |one=>
  intro e h;rcases cN.mp h with rfl |h;exact hn
  cases dQ.mp h;exact hh
 |two=>
  intro e h;rcases cN.mp h with rfl |h;exact⟨_,by decide,dK jX (by decide)⟩
  rcases cN.mp h with rfl |h;exact hn
  cases dQ.mp h;exact hh
 |inl b=>intro e h;cases dQ.mp h;exact⟨_,by exact eG (jR (congrArg Nat.succ (ng 1 (k+1)))) (vV (Nat.add_lt_add_right hk 3) (by decide)),dK (Gp z rfl (by decide)) (by decide)⟩
 |no=>intro e h;cases dQ.mp h;exact⟨_,by decide,dK MG (by decide)⟩
end
noncomputable def uI(g:List UInt8->List UInt8):Int->FL->List eF
 |_,[]=>[]
 |i,f::r=>⟨f.1,i+1,i,false,f.2,g f.2⟩::uI g (i+2) r
section
variable{n k m sp bD flag way:Nat}{fl:FL}{H T K:List (aG×D)}{tr:Option D}{R:List (Int×Int)}{g:List UInt8->List UInt8}{pre:List En}{f:eF}
theorem Nq:∀(fl:FL)(i:Int),(uI g i fl).map eF.p=su i fl
 | [],_=>rfl
 |f::r,i=>by show _::(uI g (i+2) r).map eF.p=_::su (i+2) r;rw[Nq r]
theorem xo:∀(fl:FL)(i:Int),(uI g i fl).map (λZ=>Z.nm)=fl.map (λZ=>Z.1)
 | [],_=>rfl
 |f::r,i=>by show _::(uI g (i+2) r).map (λZ=>Z.nm)=_::r.map (λZ=>Z.1);rw[xo r]
theorem xq:∀{fl:FL}{i:Int},f ∈ uI g i fl->(f.t,0,f.st,[]) ∈ ym i fl/\(f.s,0,f.sp,[(f.t,0)]) ∈ ym i fl/\(f.nm,f.w) ∈ fl/\f.dg=g f.w/\f.t < i+2 * fl.length/\f.s < i+2 * fl.length
 |x::r,i,h=>by
  rcases cN.mp h with rfl |h
  ·exact⟨.head _, .tail _ (.head _), .head _,rfl,by rw[jS];show i < _;exact VC▸Int.lt_of_lt_of_le (Int.lt_add_of_pos_right i (by decide:(0:Int) < 2)) (Int.le_add_of_nonneg_right (n6 (2 * r.length))),by rw[jS];show i+1 < _;exact VC▸Int.lt_of_lt_of_le (Int.add_lt_add_left (by decide:(1:Int) < 2) i) (Int.le_add_of_nonneg_right (n6 (2 * r.length)))⟩
  ·refine cps λPP kk=> ?_;obtain⟨h1,h2,h3,h4,h5,h6⟩:=xq h;refine kk ?_;clear kk;exact⟨.tail _ (.tail _ h1), .tail _ (.tail _ h2), .tail _ h3,h4,by rw[jS];exact VC▸h5,by rw[jS];exact VC▸h6⟩
theorem tD:∀{fl:FL}{i:Int}{a b:List UInt8},qH (uI g i fl) a b↔(a,b) ∈ fl
 | [],i,a,b=>⟨λ⟨_,h,_⟩=>(nomatch h),λh=>(nomatch h)⟩
 |x::r,i,a,b=>by
  constructor
  ·rintro⟨f,h,rfl,rfl⟩
   exact(xq h).2.2.1
  ·intro h;rcases cN.mp h with rfl |h
   ·exact⟨_, .head _,rfl,rfl⟩
   ·obtain⟨f,h1,h2,h3⟩:=tD.mpr h;exact⟨f, .tail _ h1,h2,h3⟩
theorem Ca(hw:∀f ∈ fl,f.2.length<=3)(hl:fl.length<=3)(hg:∀w:List UInt8,w.length<=3->Dg w (g w))(hT:T=pre.map eT)(T5:aJ T (.int 60)=none)(V1:aJ T (.int 61)=none)(HK:aJ T (.int 70)=none)(ck:Im ((pre++o7 tr R (gC way tr)).map eS)=true)(ob:∀e ∈ pre,OB 8 e.2.2.1 e.2.2.2)
  (ht:∀t,tr=some t->Vj 5 t R/\t.isNone=false)(h0:tr=none->R=[])(tb:∀e ∈ ym 1 fl,e ∈ pre)(Rq:Q8 ∈ pre)(te:∀H,IJ (T++H) tr (su 1 fl))(nd:(fl.map (λZ=>Z.1)).Nodup)(so:(fl.map (λZ=>Z.1)).Pairwise λa b=>cP.blt b a=false)(n5:∀x ∈ fl.map (λZ=>Z.1),x ∈ EC):
  ∃d_ E,IP (qK T tr (gC way tr)) (gC way tr) tr (uI g 1 fl) d_ E:=by
 have X:=Yb ck λe he=>(gU.mp he).elim (ob e) (Kg ht h0 e);have eq:qK T tr (gC way tr)=(pre++o7 tr R (gC way tr)).map eT:=by rw[Kh (R:=R) T5 V1 HK,hT,fZ]
 have VG:=te ((o7 tr R (gC way tr)).map eT);rw[hT, <-fZ]at VG;have hb:∀b,gC way tr= .inl b->b=true:=λb e=>by
  unfold gC at e;split at e<;>first |(cases e;rfl) |(split at e<;>first |(cases e;rfl) |cases e) |cases e
 have hn:gC way tr= .no->tr=none:=λe=>by
  unfold gC at e;clear hb VG eq X te Rq tb h0 ht ob ck;split at e<;>first |(cases e;done) |(split at e<;>first |rfl |(cases e;done))
 have so':((uI g 1 fl).map (λZ=>Z.nm)).Pairwise λa b=>cP.blt b a=false:=by rw[xo];exact so
 rw[eq];generalize gC way tr=wy at *;have po:∀{e:En},e ∈ o7 tr R wy->e ∈ pre++o7 tr R wy:=λh=>iF _ h;refine⟨_,_,X.wt,X.sz,⟨?_,(X.at' Q8 (g6 _ Rq)).1,λe=> ?_,λe=> ?_,hn⟩,by rw[Nq];exact VG,by rw[xo];exact nd,lR.mp so',λf hf=> ?_,X.ch,X.ky,X.no,⟨λe=> ?_,λe=> ?_⟩,X.tl,λf hf=>n5 _ (xo (g:=g) fl 1▸cX.mpr ⟨f,hf,rfl⟩)⟩
 ·clear so' hn VG eq n5 so nd te Rq tb h0 ht ob ck HK V1 T5 hT hg hl hw;cases wy with
  |one=>exact(X.at' _ (po (.tail _ (.head _)))).1
  |two=>exact(X.at' _ (po (.tail _ (.tail _ (.head _))))).1
  |inl b=>cases hb b rfl;exact(X.at' _ (po (.head _))).1
  |no=>exact(X.at' _ (po (.head _))).1
 ·cases e;exact(X.at' _ (po (.head _))).1
 ·cases e;exact⟨(X.at' _ (po (.head _))).1,(X.at' _ (po (.tail _ (.head _)))).1⟩
 ·obtain⟨h1,h2,h3,h4,h5,h6⟩:=xq hf;have a1:=X.at' _ (g6 _ (tb _ h1));have a2:=X.at' _ (g6 _ (tb _ h2));exact⟨a2.1,a1.1,by exact Ry h6 ‹_›,by exact Ry h5 ‹_›,λq=>by rw[a2.2];exact dQ,a1.2,hw _ h3,by rw[h4];exact hg _ (hw _ h3)⟩
 ·cases e;exact(X.at' _ (po (.tail _ (.head _)))).2
 ·cases e;exact⟨(X.at' _ (po (.tail _ (.tail _ (.head _))))).2,(X.at' _ (po (.head _))).2⟩
theorem Ql:∃g:List UInt8->List UInt8,∀w:List UInt8,w.length<=3->Dg w (g w):=by
 obtain⟨g,hg⟩:=Classical.axiomOfChoice (r:=λ(w:List UInt8)(d:List UInt8)=>w.length<=3->Dg w d) λw=>by
  by_cases h:w.length<=3
  ·obtain⟨d,hd⟩:=vL h;exact⟨d,λZ=>hd⟩
  ·exact⟨[],λq=>absurd q h⟩
 exact⟨g,hg⟩
theorem Ug(F:Ab fl):(fl.map (λZ=>Z.1)).Nodup/\((fl.map (λZ=>Z.1)).Pairwise λa b=>cP.blt b a=false)/\∀x ∈ fl.map (λZ=>Z.1),x ∈ EC:=by
 cases F with
 |one w=>exact(by decide+kernel:([[97]]:List (List UInt8)).Nodup/\(([[97]]:List (List UInt8)).Pairwise λa b=>cP.blt b a=false)/\∀x ∈ ([[97]]:List (List UInt8)),x ∈ EC)
 |two w v=>exact(by decide+kernel:([[97],[98]]:List (List UInt8)).Nodup/\(([[97],[98]]:List (List UInt8)).Pairwise λa b=>cP.blt b a=false)/\∀x ∈ ([[97],[98]]:List (List UInt8)),x ∈ EC)
 |jm w v u=>exact(by decide+kernel:([[97],[97,98],[98]]:List (List UInt8)).Nodup/\(([[97],[97,98],[98]]:List (List UInt8)).Pairwise λa b=>cP.blt b a=false)/\∀x ∈ ([[97],[97,98],[98]]:List (List UInt8)),x ∈ EC)
theorem Oc(F:Ab fl):Wd (xS fl) (uI g 1 fl):=by
 have h:((xS fl).map (λZ=>Z.1)).Nodup/\(∀p ∈ xS fl,∃a b,p=(.bytes a, .bytes b)/\(a,b) ∈ fl)/\∀x ∈ fl,(aG.bytes x.1,D.bytes x.2) ∈ xS fl:=by
  cases F with
  |one w=>exact⟨(by decide:([.bytes [97]]:List aG).Nodup),λp hp=>by cases dQ.mp hp;exact⟨_,_,rfl, .head _⟩,λx hx=>by cases dQ.mp hx;exact .head _⟩
  |two w v=>
   refine⟨(by decide:([.bytes [97], .bytes [98]]:List aG).Nodup),λp hp=> ?_,λx hx=> ?_⟩
   ·rcases cN.mp hp with rfl |hp;exact⟨_,_,rfl, .head _⟩
    cases dQ.mp hp;exact⟨_,_,rfl, .tail _ (.head _)⟩
   ·rcases cN.mp hx with rfl |hx;exact .head _
    cases dQ.mp hx;exact .tail _ (.head _)
  |jm w v u=>
   refine⟨(by decide:([.bytes [97], .bytes [98], .bytes [97,98]]:List aG).Nodup),λp hp=> ?_,λx hx=> ?_⟩
   ·rcases cN.mp hp with rfl |hp;exact⟨_,_,rfl, .head _⟩
    rcases cN.mp hp with rfl |hp;exact⟨_,_,rfl, .tail _ (.tail _ (.head _))⟩
    cases dQ.mp hp;exact⟨_,_,rfl, .tail _ (.head _)⟩
   ·rcases cN.mp hx with rfl |hx;exact .head _
    rcases cN.mp hx with rfl |hx;exact .tail _ (.tail _ (.head _))
    cases dQ.mp hx;exact .tail _ (.head _)
 exact⟨h.1,λp hp=>by obtain⟨a,b,e,hm⟩:=h.2.1 p hp;exact⟨a,b,e,tD.mpr hm⟩,λa b hh=>h.2.2 (a,b) (tD.mp hh)⟩
theorem B0(h:way < 4):way ∈ ([0,1,2,3]:List Nat):=by
 rcases KN h with rfl |rfl |rfl |rfl
 ·exact .head _
 ·exact .tail _ (.head _)
 ·exact .tail _ (.tail _ (.head _))
 ·exact .tail _ (.tail _ (.tail _ (.head _)))
set_option tactic.hygienic true in
theorem WD(h:Ad fl T tr K)(hw:way < 4):∃fs d_ E,IP (qK T tr (gC way tr)) (gC way tr) tr fs d_ E/\Wd K fs:=by
 obtain⟨g,hg⟩:=Ql;cases h with
 |nil=>
  obtain⟨d_,E,S⟩:=Ca (way:=way) (fl:=[]) (pre:=[Q8]) (T:=[xO]) (tr:=none) (R:=[]) (λf h=>nomatch h) (by decide) hg rfl (by kernel_rfl) (by kernel_rfl) (by kernel_rfl) (cZ.mp LD way (B0 hw)) (λe he=>by cases dQ.mp he;exact⟨_,by decide,dK Gq (by decide)⟩) (λt h=>nomatch h) (λZ=>rfl) (λe h=>nomatch h) (.head _) (λH=>⟨λZ=>rfl,(λt h=>nomatch h),(λt h=>nomatch h),(λt h=>nomatch h),pY _⟩) nh .nil (λx h=>nomatch h);exact⟨_,d_,E,S,nh,(λp h=>nomatch h),λa b ⟨f,h,_⟩=>nomatch h⟩
 |tree F hf3 hf TV=>
  rename_i bD flag;obtain⟨w,v,u,hm⟩:=C6 F hf TV;have h1:=List.map_inj_left.mp (Kf (w:=w) (v:=v) (u:=u)) _ hm;have h2:=cZ.mp (cZ.mp (LG (w:=w) (v:=v) (u:=u)) _ hm) way (B0 hw);dsimp only at h1 h2;obtain⟨q1,q2,q3,q4⟩:f_ fl bD flag=(DV fl bD flag).map eT/\aJ (f_ fl bD flag) (.int 60)=none/\aJ (f_ fl bD flag) (.int 61)=none/\aJ (f_ fl bD flag) (.int 70)=none:=⟨congrArg (λZ=>Z.1) h1,congrArg (λZ=>Z.2.1) h1,congrArg (λZ=>Z.2.2.1) h1,congrArg (λZ=>Z.2.2.2) h1⟩;obtain⟨a,b,c⟩:=Ug F;have tb:(∀e ∈ ym 1 fl,e ∈ DV fl bD flag)/\Q8 ∈ DV fl bD flag:=by
   clear q4 q3 q2 q1 h2 h1 hm u;rcases CC TV with rfl |rfl
   ·exact⟨λe he=> .tail _ (g6 _ he), .head _⟩
   ·exact⟨λe he=> .tail _ (g6 _ he), .head _⟩
  obtain⟨d_,E,S⟩:=Ca (way:=way) hf3 (Ll F) hg q1 q2 q3 q4 h2 (OW (Ll F) hf TV) (λt e=>by cases e;exact Oq (Ll F) hf TV) (λh=>nomatch h) tb.1 tb.2 (λH=>Wx F hf TV) a b c;exact⟨_,d_,E,S,Oc F⟩
end
noncomputable abbrev OL(p:aH)(T:List (aG×D))(os:List aH):az:= .tab 0:: .tab 1::p:: .dict .ki T:: .dict .ks R0::os
noncomputable abbrev KQ:V:= .bV 3 (.h 4)
inductive rG:List aH->Nat->List (aG×D)->Prop
 |a {x6 x7:aH} {K:List (aG×D)} (h6:x6.aY=true) (h7:x7.aY=true):rG [.dict .kb K,x6,x7] 5 K
 |b {y x6 x7:aH} {K:List (aG×D)} (hy:y.aY=true) (h6:x6.aY=true) (h7:x7.aY=true):rG [y,x6,x7, .dict .kb K] 8 K
 |c {y x6 x7 z:aH} {K:List (aG×D)} (hy:y.aY=true) (h6:x6.aY=true) (h7:x7.aY=true) (hz:z.aY=true):rG [y,x6,x7,z, .dict .kb K] 9 K
section
variable{n k j:Nat}{T T' K K':List (aG×D)}{p:aH}{os:List aH}{args dR:List V}{id:Nat}{d:D}{x:Ex}{nm w:List UInt8}{r:V}
theorem QT(hp:p.aY=true)(hf:os.all aH.aY=true):(OL p T os).all aH.aY=true:=by
 show(p.aY&&os.all aH.aY)=true;rw[hp,hf];rfl
theorem tU(h:fn id (run n) dR (O4 T R0)= .ok (.d d) (O4 T' R0))(uH:Nat.blt id 73=true)(ha:idxOf args=[0,1,3,4])(hr:args.map (V.Ag (([0,1,3,4]:List Nat).idxOf ·))=dR)(hp:p.aY=true)(hf:os.all aH.aY=true):run (n+1) id args (OL p T os)= .ok (.d d) (OL p T' os):=
 bu (dR:=dR) (o₀:=O4 T R0) h uH (by rw[ha];rfl) (by rw[ha];exact hr) (QT hp hf) (by
  rw[ha];show aR.ok (V.d d) (OL p T' (os++[]))=_;rw[fC])
theorem Io(h:fn id (run n) dR (O4 T R0)= .exc x (O4 T' R0))(uH:Nat.blt id 73=true)(ha:idxOf args=[0,1,3,4])(hr:args.map (V.Ag (([0,1,3,4]:List Nat).idxOf ·))=dR)(hp:p.aY=true)(hf:os.all aH.aY=true):run (n+1) id args (OL p T os)= .exc x (OL p T' os):=
 mG (dR:=dR) (o₀:=O4 T R0) h uH (by rw[ha];rfl) (by rw[ha];exact hr) (QT hp hf) (by
  rw[ha];show aR.exc x (OL p T' (os++[]))=_;rw[fC])
theorem rG.aY(A:rG os j K):os.all aH.aY=true:=by
 cases A with
 |a h6 h7=>show(true&&(_&&(_&&true)))=true;rw[h6,h7];rfl
 |b hy h6 h7=>show(_&&(_&&(_&&(true&&true))))=true;rw[hy,h6,h7];rfl
 |c hy h6 h7 hz=>show(_&&(_&&(_&&(_&&(true&&true)))))=true;rw[hy,h6,h7,hz];rfl
theorem rG.dct(A:rG os j K):cH (OL p T os) (.h j)=some (.kb,K)/\bU (OL p T os) (.h j)=none:=by cases A<;>exact⟨rfl,rfl⟩
theorem rG.G8(A:rG os j K)(h:aJ K (.bytes nm)=some d):aC (.h j) (.d (.bytes nm)) (OL p T os)= .ok (.d d) (OL p T os):=by
 have e:∀{o:az},cH o (.h j)=some (.kb,K)->aC (.h j) (.d (.bytes nm)) o= .ok (.d d) o:=λ{o} q=>by
  unfold aC;rw[q];show bx (aJ K (.bytes nm)) _=_;rw[h];rfl
 exact e A.dct.1
theorem rG.has(A:rG os j K){b:Bool}(h:(aJ K (.bytes nm)).isSome=b):uK (.d (.bytes nm)) (.h j) (OL p T os)= .ok (.d (.bool b)) (OL p T os)/\dX (.d (.bytes nm)) (.h j) (OL p T os)= .ok (.d (.bool (!b))) (OL p T os):=by
 have e:zI (.d (.bytes nm)) (.h j) (OL p T os)=some b:=by
  unfold zI;rw[A.dct.1];show some (aJ K (.bytes nm)).isSome=_;rw[h]
 constructor
 ·unfold uK;rw[e];rfl
 ·unfold dX;rw[e];rfl
theorem rG.set(A:rG os j K)(hl:c6 K.length=true):∃os',rG os' j (b_ K (.bytes nm) d)/\∀{p:aH}{T:List (aG×D)},lH (.h j) (.d (.bytes nm)) d (OL p T os)= .ok () (OL p T os'):=by
 cases A with
 |a h6 h7=>exact⟨_, .a h6 h7,λ{p T}=>by show bz (c6 K.length) _=_;rw[hl];rfl⟩
 |b hy h6 h7=>exact⟨_, .b hy h6 h7,λ{p T}=>by show bz (c6 K.length) _=_;rw[hl];rfl⟩
 |c hy h6 h7 hz=>exact⟨_, .c hy h6 h7 hz,λ{p T}=>by show bz (c6 K.length) _=_;rw[hl];rfl⟩
theorem rG.new(A:rG os j K)(hj:j≠9):rG (os++[.dict .kb K']) (5+os.length) K':=by
 cases A with
 |a h6 h7=>exact .b rfl h6 h7
 |b hy h6 h7=>exact .c hy h6 h7 rfl
 |c=>exact absurd rfl hj
theorem rG.c62(A:rG os j K)(hp:p.aY=true)(h:fn 62 (run n) [sh, .h 4, .d t1, .d t2] (pV T K)= .ok (.d d) (pV T K)):run (n+1) 62 [KQ, .h j, .d t1, .d t2] (OL p T os)= .ok (.d d) (OL p T os):=by
 have f:=A.aY;cases A with
 |a h6 h7=>exact bu (o₀:=pV T K) h rfl rfl rfl (QT hp f) rfl
 |b hy h6 h7=>exact bu (o₀:=pV T K) h rfl rfl rfl (QT hp f) rfl
 |c hy h6 h7 hz=>exact bu (o₀:=pV T K) h rfl rfl rfl (QT hp f) rfl
theorem rG.iter(A:rG os j K):∃os',os'.all aH.aY=true/\(∀{p:aH}{T:List (aG×D)},Bg (.h j) (OL p T os)= .ok (K.map λq=>V.d (cQ q.1),some j) (OL p T os')/\jI (some j) (OL p T os')=true/\qI (some j) (OL p T os')=some (OL p T os)/\cH (OL p T os') (.h j)=some (.kb,K)):=by
 cases A with
 |a h6 h7=>exact⟨[.pin (.dict .kb K),_,_],by show(true&&(_&&(_&&true)))=true;rw[h6,h7];rfl,λ{p T}=>⟨rfl,rfl,rfl,rfl⟩⟩
 |b hy h6 h7=>exact⟨[_,_,_, .pin (.dict .kb K)],by show(_&&(_&&(_&&(true&&true))))=true;rw[hy,h6,h7];rfl,λ{p T}=>⟨rfl,rfl,rfl,rfl⟩⟩
 |c hy h6 h7 hz=>exact⟨[_,_,_,_, .pin (.dict .kb K)],by show(_&&(_&&(_&&(_&&(true&&true)))))=true;rw[hy,h6,h7,hz];rfl,λ{p T}=>⟨rfl,rfl,rfl,rfl⟩⟩
theorem Sw{i:Nat}(h:i < 5):∃nm ∈ EC,∀o:az,aC (.d (.tup [.bytes [97], .bytes [98], .bytes [97,98], .bytes [], .bytes [255]])) (.d (.int (i:Int))) o= .ok (.d (.bytes nm)) o:=by
 rcases lt5 h with rfl |rfl |rfl |rfl |rfl
 ·exact⟨_, .head _,λZ=>rfl⟩
 ·exact⟨_, .tail _ (.head _),λZ=>rfl⟩
 ·exact⟨_, .tail _ (.tail _ (.head _)),λZ=>rfl⟩
 ·exact⟨_, .tail _ (.tail _ (.tail _ (.head _))),λZ=>rfl⟩
 ·exact⟨_, .tail _ (.tail _ (.tail _ (.tail _ (.head _)))),λZ=>rfl⟩
end
section
variable{n k j:Nat}{T T' K K':List (aG×D)}{p:aH}{os:List aH}{d:D}{nm w:List UInt8}{fs Ak:List eF}{N:List NP}{loc:bL}{tl:bL}
theorem Wd.ML(W:Wd K fs):(aJ K (.bytes nm)).isSome=true↔∃f ∈ fs,f.nm=nm:=by
 constructor
 ·intro h;obtain⟨d,hd⟩:=kq.mp h;obtain⟨a,b,e,f,hf,h1,h2⟩:=W.kb _ (iM hd);cases e;exact⟨f,hf,h1⟩
 ·rintro⟨f,hf,rfl⟩
  rw[fq W.nd (W.hk f.nm f.w ⟨f,hf,rfl,rfl⟩)];rfl
theorem Wd.add(W:Wd K fs)(h:∀a b,qH Ak a b↔(a=nm/\b=w)\/(a≠nm/\qH fs a b)):Wd (b_ K (.bytes nm) (.bytes w)) Ak:=by
 have nd:=jt (k:=aG.bytes nm) (d:=D.bytes w) W.nd;refine⟨nd,λq hq=> ?_,λa b hh=> ?_⟩
 ·have:=fq nd (show(q.1,q.2) ∈ _ from hq);rw[ia]at this
  by_cases e:aG.bytes nm=q.1
  ·rw[bw e]at this;exact⟨nm,w,Prod.ext e.symm (iQ this).symm,(h nm w).mpr (.inl ⟨rfl,rfl⟩)⟩
  ·rw[aZ e]at this;obtain⟨a,b,eq,hh⟩:=W.kb _ (iM this);refine⟨a,b,eq,(h a b).mpr (.inr ⟨λea=>e ?_,hh⟩)⟩;rw[congrArg (λZ=>Z.1) eq,ea]
 ·refine iM ?_;rw[ia];rcases(h a b).mp hh with⟨rfl,rfl⟩ |⟨ne,hh⟩
  ·exact bw rfl
  ·rw[aZ λe=>ne (aG.bytes.inj e).symm];exact fq W.nd (W.hk a b hh)
theorem Wd.EM(W:Wd K fs):∃N:List NP,K=N.map bK:=by
 refine⟨K.map λq=>(match q.1 with | .bytes a=>a |_=>[],q.2), ?_⟩;rw[dB];refine(List.map_id K).symm.trans (List.map_congr_left λq hq=> ?_);obtain⟨a,b,rfl,_⟩:=W.kb q hq
 rfl
theorem Wd.del(W:Wd (N.map bK) fs)(h:∀a b,qH Ak a b↔a≠nm/\qH fs a b):Wd ((N.filter λq=> !decide (q.1=nm)).map bK) Ak:=by
 have sub:(N.filter λq=> !decide (q.1=nm)).map bK|>.Sublist (N.map bK):=rL.map _;refine⟨W.nd.sublist (sub.map _),λq hq=> ?_,λa b hh=> ?_⟩
 ·obtain⟨a,b,e,hh⟩:=W.kb q (sub.subset hq);obtain⟨r,hr,rfl⟩:=mM hq;refine⟨a,b,e,(h a b).mpr ⟨λea=> ?_,hh⟩⟩;have h1:=(iE.mp hr).2;have h2:r.1=a:=aG.bytes.inj (congrArg (λZ=>Z.1) e);rw[h2,ea,cM rfl]at h1;cases h1
 ·obtain⟨ne,hh⟩:=(h a b).mp hh;obtain⟨r,hr,e⟩:=mM (W.hk a b hh);have h2:r.1=a:=aG.bytes.inj (congrArg (λZ=>Z.1) e);exact cX.mpr ⟨r,iE.mpr ⟨hr,by rw[h2,fM ne];rfl⟩,e⟩
theorem BZ(A:rG os j (N.map bK))(nd:(N.map (λZ=>Z.1)).Nodup)(hl:N.length<=100):
  aq (bB (gw true (.dict .kb []))) (aa (a_ [12,13] (bH (af 2)) (aU 13) (aE gA (af 13) (af 4)) (gu (cB (aa (af 13) (aa (aB aC (af 2) (af 13)) ak)))) [] bh) ak) (a0::a1::some (.h j)::a3::some (.d (.bytes nm))::a5::a6::a7::a8::a9::mJ::a11::List.replicate 12 none) (OL p T os)
   = .ok (.h (5+os.length)) (OL p T (os++[.dict .kb ((N.filter λq=> !decide (q.1=nm)).map bK)])):=by
 refine cps λPP kk=> ?_;obtain⟨os',f',it⟩:=A.iter;obtain⟨i1,i2,i3,i4⟩:=it (p:=p) (T:=T);refine kk ?_;clear kk;have cm:=gT (out:=bh) (acc:=[]) (pn:=some j) (o:=OL p T os') (mk:=λq:NP=>V.d (.bytes q.1)) (nx:=λq=>some (V.d (.bytes q.1))) (L:=λy=>a0::a1::some (.h j)::a3::some (.d (.bytes nm))::a5::a6::a7::a8::a9::mJ::a11::none::y::List.replicate 10 none) (bd:=aU 13) (t:=aE gA (af 13) (af 4)) (e:=cB (aa (af 13) (aa (aB aC (af 2) (af 13)) ak))) (p:=λq=> !decide (q.1=nm)) (f:=pr) (l:=N) (y:=none) i2 (λx y=>rfl) (λq hq=>⟨aQ rfl rfl WY rfl,λZ=>eH (aj rfl (aj (aN rfl rfl (by
  unfold aC;rw[i4];show bx (aJ (N.map bK) (.bytes q.1)) _=_;rw[fq (d:=q.2) (by rw[dB];exact lR.mpr ((lR.mp nd).imp λh e=>h (aG.bytes.inj e))) (cX.mpr ⟨q,hq,rfl⟩)];rfl)) rfl)) rfl rfl⟩) (by rw[nj,jQ];exact pA ‹_› rfl)
 rw[i3,List.nil_append]at cm;rw[dB]at i1;have hf:((N.filter λq=> !decide (q.1=nm)).map pr).length < 1000000:=by rw[cO];exact eG (List.length_filter_le ..) (by exact pA ‹_› rfl)
 refine au (aj (i6 (gj (y:= .h j) rfl i1) cm) rfl) ?_;show bz (true&&c6 ((N.filter λq=> !decide (q.1=nm)).map pr).length) (bx (fP (.dict .kb []) ((N.filter λq=> !decide (q.1=nm)).map pr)) λx=>wN true x _)=_;rw[bR hf,show fP (.dict .kb []) ((N.filter λq=> !decide (q.1=nm)).map pr)=some (.dict .kb ((N.filter λq=> !decide (q.1=nm)).map bK))from qh _ [] (nd.sublist (rL.map _))];show aR.ok (V.h (OL p T os).length) (OL p T os++[_])=_;rw[show(OL p T os).length=5+os.length from by show os.length+1+1+1+1+1=_;exact ng _ 5];rfl
end
noncomputable abbrev LC(a0:Option V)(j:Nat)(r:D)(x4:Option V)(b5:Bool)(x6 x7 x8 x9 x10:Option V):bL:=a0::some (.h 2)::some (.h j)::some (.d r)::x4::some (.d (.bool b5))::x6::x7::x8::x9::x10::some KQ::List.replicate 12 none
inductive xR(ds:Bool)(k:Nat)(tn:Bool)(p:aH)(T:List (aG×D))(os:List aH)(j:Nat)(K:List (aG×D)):Prop
 |mk {wy:lT} {tr:Option D} {fs:List eF} {d_:Int->List (Int×Int)} {E:List (Int×Int)} (P:PO k p) (S:IP T wy tr fs d_ E) (W:Wd K fs) (A:rG os j K) (hd:wy.ds=ds) (ht:tn=true->T.length<=2 * fs.length+6)
section
variable{n k j:Nat}{T T' K K':List (aG×D)}{p p':aH}{os:List aH}{d:D}{nm w:List UInt8}{fs Ak:List eF}{N:List NP}{loc:bL}{tl:bL}{ds tn:Bool}{rest:Bool->D}{a0 a4 a6 a7 a8 a9 mJ:Option V}{fe:DE}{o o1:az}{x:Ex}
theorem Ww(h:fe loc (OL p T os)= .ok (.d .none) (OL p' T' os)):gQ 1 1 fe loc (OL p T os)= .ok (.d (.str "")) (OL p' T' os):=by
 unfold gQ;rw[h];show aR.ok (V.d (.str "")) ((OL p' T' os).take (OL p T os).length)=_;rw[show(OL p' T' os).take (OL p T os).length=OL p' T' os from Ay (Nat.le_refl _)]
theorem RI(h:fe loc (OL p T os)= .exc .tree (OL p' T' os)):gQ 1 1 fe loc (OL p T os)= .ok (.d (.str "tree")) (OL p' T' os):=by
 unfold gQ;rw[h];show aR.ok (V.d (.str "tree")) ((OL p' T' os).take (OL p T os).length)=_;rw[show(OL p' T' os).take (OL p T os).length=OL p' T' os from Ay (Nat.le_refl _)]
theorem E5{w:lT}:(Mv w).ds=w.ds:=by cases w<;>rfl
theorem xR.right(I:xR ds k tn p T os j K)(Z:Wg rest):run (n+13) 62 [KQ, .h j, .d (rest ds), .d (.bool tn)] (OL p T os)= .ok (.d (.bool true)) (OL p T os):=by
 cases I with
 |mk P S W A hd ht=>
 subst hd;exact A.c62 P.aY (f62 (n:=n) S W Z ht)
inductive JT(n:Nat)(k:Nat)(j:Nat)(T:List (aG×D))(p:aH)(os:List aH)(d:D)(nm:List UInt8)(ds:Bool)(tn:Bool)(a0:Option V)(a6:Option V)(a7:Option V)(a8:Option V)(a9:Option V)(mJ:Option V):Prop
 |mk (p' T' os' K' i) (_:xR ds (k+7) true p' T' os' j K') (_:∀(x4:Option V),x4=some (.d (.bytes nm))->ao (ay 5 (ai (.bool true))) (ao (iu (aq (run (n+13) 56) (aa (af 1) (aa (ai (.int 3)) ak))) (af 2) (af 4)) (ao (ay 7 (aq (run (n+13) 52) (aa (af 11) (aa (af 4) (aa (aq (run (n+13) 50) (aa (aB aC (af 2) (af 4)) (aa (aq (jZ .stream 2 []) (aa (cV false .ks (bW (ai (.str "Length")) (aq (bB dj) (aa (aB aC (af 2) (af 4)) ak)) fV)) (aa (aB aC (af 2) (af 4)) ak))) ak))) ak))))) (ao (dw (aE gA (bq "octets" (aB aC (aO aI (run (n+13) 64) (af 11) (aa (af 7) ak)) (ai (.str "F")))) (af 4)) (ao (aX (ai (.bool false))) av) av) av))) (LC a0 j d x4 tn a6 a7 a8 a9 mJ) (OL p T os)= .ok (.next (LC a0 j d x4 true a6 (some (.d (rf i 0))) a8 a9 mJ)) (OL p' T' os'))
theorem Oi(I:xR ds k tn p T os j K)(hk:k<=500)(hn:nm ∈ EC):JT n k j T p os d nm ds tn a0 a6 a7 a8 a9 mJ:=by
 cases I with
 |mk P S W A hd ht=>
 refine cps λPP kk=> ?_;obtain⟨w,p3,hw,P3,e3⟩:=V5 (n:=n+11) P (by exact qq ‹_› rfl);have lK:K.length < 1000000:=by rw[W.len S.nd];have:=GS S.nd S.n5;exact pA ‹_› rfl
 obtain⟨R6,A1,s1⟩:=A.set (nm:=nm) (d:= .bytes w) (bR lK);obtain⟨dg,hdg⟩:=vL hw;obtain⟨T2,RJ,Ak,jU,E2,i,f,e52,S2,ln2,hf,hi,hnm,hh⟩:=f52 (n:=n+1) S hn hw hdg;refine kk ?_;clear kk;have F:=S2.fl f hf;refine⟨p3,T2,R6,_,i, .mk P3 S2 (W.add hh) A1 (E5.trans hd) (λZ=>by exact cS ln2 (iR (by decide) _)),λx4 hx=> ?_⟩;subst hx;have it:∀{p:aH}{T:List (aG×D)},aC (.h j) (.d (.bytes nm)) (OL p T R6)= .ok (.d (.bytes w)) (OL p T R6):=λ{p T}=>A1.G8 (by rw[ia,bw rfl]);have fF:∀{o:az},aC (.d f.sp) (.d (.str "F")) o= .ok (.d (e8 f.nm)) o:=λ{o}=>by
  have:aJ (xU f.nm f.t f.b) (.str "F")=some (e8 f.nm):=by cases f.b<;>kernel_rfl
  show bx (aJ (xU f.nm f.t f.b) (.str "F")) _=_;rw[this];rfl
 have F1:=F.ff;rw[hi]at F1;rw[hnm]at fF;exact aA (asg rfl) (aA (h_ (au (aj rfl (aj rfl rfl)) (Qp P e3 A.aY)) rfl rfl rfl s1) (aA (asg (au (aj rfl (aj rfl (aj (au (aj (aN rfl rfl it) (aj (au (aj (Bw (sy rfl (au (aj (aN rfl rfl it) rfl) (KS (eG hw (by decide)))) rfl) rfl rfl rfl) (aj (aN rfl rfl it) rfl)) rfl) rfl)) (cC (f50 (n:=n+2) (eG hw (by decide)) hdg) rfl rfl rfl (QT P3.aY A1.aY))) rfl))) (tU (n:=n+12) (e52) rfl rfl rfl P3.aY A1.aY))) (aA (ez (aQ (di (aN (aL rfl rfl (aj rfl rfl) (tU (ZN F1 (by decide)) rfl rfl rfl P3.aY A1.aY)) rfl fF) rfl) rfl WZ rfl) rfl) rfl)))
theorem R7(h:f loc o= .ok v o1)(h2:DG v o1= .ok true o2):zG f g loc o= .ok v o2:=gj h (gj h2 rfl)
theorem R8(h:f loc o= .ok v o1)(h2:DG v o1= .ok false o2)(h3:g loc o2=R):zG f g loc o=R:=gj h (gj h2 h3)
inductive JS(n:Nat)(k:Nat)(j:Nat)(T:List (aG×D))(p:aH)(os:List aH)(d:D)(nm:List UInt8)(ds:Bool)(tn:Bool)(a0:Option V)(a6:Option V)(a7:Option V)(a8:Option V)(a9:Option V)(mJ:Option V):Prop
 |mk (T' os' j' K' Mx x8 x9) (_:(j=5->j'=8)) (_:xR ds k Mx p T' os' j' K') (_:∀(x4:Option V),x4=some (.d (.bytes nm))->ao (ay 8 (aO aI (run (n+13) 71) (af 11) ak)) (ao (ay 9 (gQ 1 1 (aq (run (n+13) 53) (aa (af 11) (aa (af 4) ak))))) (ao (dw (pL (aE gA (af 9) (eW (aE uK (af 4) (af 2)) (ai (.str "")) (ai (.str "tree")))) (pL (gS (aE dX (af 4) (af 2)) (gS (aE gA (aO aI (run (n+13) 71) (af 11) ak) (af 8)) bN)) gR)) (ao (aX (ai (.bool false))) av) av) (ao (ay 5 (zG (af 5) (aB uK (af 4) (af 2)))) (ao (ay 2 (aq (bB (gw true (.dict .kb []))) (aa (a_ [12,13] (bH (af 2)) (aU 13) (aE gA (af 13) (af 4)) (gu (cB (aa (af 13) (aa (aB aC (af 2) (af 13)) ak)))) [] bh) ak))) av)))) (LC a0 j d x4 tn a6 a7 a8 a9 mJ) (OL p T os)= .ok (.next (LC a0 j' d x4 Mx a6 a7 x8 x9 mJ)) (OL p T' os'))
set_option tactic.hygienic true in
theorem Oh(I:xR ds k tn p T os j K)(hj:j≠9):JS n k j T p os d nm ds tn a0 a6 a7 a8 a9 mJ:=by
 cases I with
 |mk P S W A hd ht=>
 rename_i wy tr fs d_ E;obtain⟨N,rfl⟩:=W.EM;have nd:(N.map (λZ=>Z.1)).Nodup:=by
  have:=W.nd;rw[dB]at this;exact lR.mpr ((lR.mp this).imp λh e=>h (congrArg aG.bytes e))
 have lN:N.length<=100:=by
  have h1:=W.len S.nd;have h2:=GS S.nd S.n5;rw[cO]at h1;exact W7 ‹_› ‹_› rfl
 have j5:j=5->5+os.length=8:=λe=>by subst e;cases A;rfl
 obtain⟨t,PJ,eq⟩:=ZK S.wt S.tl;have told:∀{loc:bL},loc[11]? =some (some KQ)->aO aI (run (n+13) 71) (af 11) ak loc (OL p T os)= .ok (.d t) (OL p T os):=λ{loc} h=>aL (show af 11 loc _= .ok KQ (OL p T os)from by unfold af;rw[h]) rfl rfl (tU (PJ (n+2)) rfl rfl rfl P.aY A.aY)
 by_cases hm:∃f ∈ fs,f.nm=nm
 ·obtain⟨T2,RJ,Ak,jU,E2,Yc,S2,ln2,hh⟩:=f53 (n:=n+1) S hm;have h1:=W.ML.mpr hm;refine⟨T2,_,_,_,true,some (.d t),some (.d (.str "")),j5, .mk P S2 (W.del hh) (A.new hj) (E5.trans hd) (λZ=>by exact cS ln2 (iR (by decide) _)),λx4 hx=> ?_⟩;subst hx;have WQ:∀{a1 a2 a3 a6 a7:Option V}{tl:bL},zG (af 5) (aB uK (af 4) (af 2)) (a1::a2::some (.h j)::a3::some (.d (.bytes nm))::some (.d (.bool tn))::tl) (OL p T2 os)= .ok (.d (.bool true)) (OL p T2 os):=λ{a1 a2 a3 a6 a7 tl}=>by
   cases tn with
   |true=>exact R7 rfl rfl
   |false=>exact R8 rfl rfl (aN rfl rfl (A.has h1).1)
  exact aA (asg (told rfl)) (aA (asg (Ww (au (aj rfl (aj rfl rfl)) (tU (n:=n+12) Yc rfl rfl rfl P.aY A.aY)))) (aA (ez (wG (aQ rfl (mj (aQ rfl rfl (A.has h1).1 rfl) rfl) Rj rfl) (wG (q8 (aQ rfl rfl (A.has h1).2 rfl)) rfl)) rfl) (aA (asg (WQ (a6:=none) (a7:=none))) (aA (asg (BZ A nd lN)) rfl))))
 ·have h1:(aJ (N.map bK) (.bytes nm)).isSome=false:=Bool.eq_false_iff.mpr λh=>hm (W.ML.mp h);have Yc:=XU (n:=n+1) (nm:=nm) S λf hf e=>hm ⟨f,hf,e⟩;have hh:∀a b,qH fs a b↔a≠nm/\qH fs a b:=λa b=>⟨λh=>⟨λe=>hm (let⟨f,hf,h1,_⟩:=h;⟨f,hf,h1.trans e⟩),h⟩,(λZ=>Z.2)⟩;refine⟨T,_,_,_,tn,some (.d t),some (.d (.str "tree")),j5, .mk P S (W.del hh) (A.new hj) hd ht,λx4 hx=> ?_⟩;subst hx;have WQ:∀{a1 a2 a3 a6 a7:Option V}{tl:bL},zG (af 5) (aB uK (af 4) (af 2)) (a1::a2::some (.h j)::a3::some (.d (.bytes nm))::some (.d (.bool tn))::tl) (OL p T os)= .ok (.d (.bool tn)) (OL p T os):=λ{a1 a2 a3 a6 a7 tl}=>by
   cases tn with
   |true=>exact R7 rfl rfl
   |false=>exact R8 rfl rfl (aN rfl rfl (A.has h1).1)
  exact aA (asg (told rfl)) (aA (asg (RI (au (aj rfl (aj rfl rfl)) (Io (n:=n+12) Yc rfl rfl rfl P.aY A.aY)))) (aA (ez (wG (aQ rfl (lu (aQ rfl rfl (A.has h1).1 rfl) rfl) Rj rfl) (wG (oM (aQ rfl rfl (A.has h1).2 rfl) (q8 (aQ (told rfl) rfl (Rk (eq _ (by decide))) rfl))) rfl)) rfl) (aA (asg (WQ (a6:=none) (a7:=none))) (aA (asg (BZ A nd lN)) rfl))))
end
section
variable{n k j:Nat}{T T' K K':List (aG×D)}{p p':aH}{os:List aH}{d:D}{nm w:List UInt8}{ds tn:Bool}{rest:Bool->D}{a0 a4 a6 a7 a8 a9 mJ:Option V}
theorem xR.po(I:xR ds k tn p T os j K):PO k p/\os.all aH.aY=true:=by cases I with |mk P S W A hd ht=>exact⟨P,A.aY⟩
theorem xR.R5(I:xR ds k tn p T os j K)(P':PO k' p'):xR ds k' tn p' T os j K:=by cases I with |mk P S W A hd ht=>exact .mk P' S W A hd ht
inductive GW(n:Nat)(k:Nat)(j:Nat)(T:List (aG×D))(p:aH)(os:List aH)(ds:Bool)(tn:Bool)(rest:Bool->D)(a0:Option V)(a4:Option V)(a6:Option V)(a7:Option V)(a8:Option V)(a9:Option V)(mJ:Option V):Prop
 |mk (Mx p' T' os' j' K' x4 x7 x8 x9) (_:(j=5->j'≠9)) (_:xR ds (k+20) Mx p' T' os' j' K') (_:GZ (run (n+13)) (LC a0 j (rest ds) a4 tn a6 a7 a8 a9 mJ) (OL p T os)= .ok (.next (LC a0 j' (rest ds) x4 Mx a6 x7 x8 x9 mJ)) (OL p' T' os'))
theorem CD(I:xR ds k tn p T os j K)(hk:k<=400)(hj:j≠9)(Z:Wg rest):GW n k j T p os ds tn rest a0 a4 a6 a7 a8 a9 mJ:=by
 refine cps λPP kk=> ?_;obtain⟨P,f⟩:=I.po;obtain⟨i,p1,hi,P1,e1⟩:=HV (m:=5) (.inr (.inr (.inr (.inl rfl)))) (by exact qq ‹_› rfl) P;obtain⟨c,p2,hc,P2,e2⟩:=HV (m:=2) (.inl rfl) (by exact pA ‹_› rfl) P1;obtain⟨nm,hn,en⟩:=Sw hi;refine kk ?_;clear kk;have I2:=I.R5 P2;rcases CC hc with rfl |rfl
 ·obtain⟨p3,T3,VT,K3,pl,I3,h⟩:=Oi (n:=n) (d:=rest ds) (a0:=a0) (a6:=a6) (a7:=a7) (a8:=a8) (a9:=a9) (mJ:=mJ) I2 (by exact EI 2 ‹_› rfl) hn;exact⟨true,p3,T3,VT,j,K3,_,_,a8,a9,λU=>hj,I3.R5 (I3.po.1.up (by exact Rl 9 rfl)),aA (asg (aN rfl (au (aj rfl (aj rfl rfl)) (j8 P (e1 (n+12)) f)) (en _))) (aA (ly (aQ (au (aj rfl (aj rfl rfl)) (j8 P1 (e2 (n+12)) f)) rfl rfl rfl) (h _ rfl)) (aA (ez (wJ (eO (au (aj rfl (aj rfl (aj rfl (aj rfl rfl)))) (I3.right Z)) rfl)) rfl) rfl))⟩
 ·obtain⟨T3,VT,j3,K3,tn3,x8,x9,hj3,I3,h⟩:=Oh (n:=n) (d:=rest ds) (nm:=nm) (a0:=a0) (a6:=a6) (a7:=a7) (a8:=a8) (a9:=a9) (mJ:=mJ) I2 hj;exact⟨tn3,p2,T3,VT,j3,K3,_,a7,x8,x9,λe=>by rw[hj3 e];decide,I3.R5 (P2.up (by exact Rl 2 rfl)),aA (asg (aN rfl (au (aj rfl (aj rfl rfl)) (j8 P (e1 (n+12)) f)) (en _))) (aA (ez (aQ (au (aj rfl (aj rfl rfl)) (j8 P1 (e2 (n+12)) f)) rfl rfl rfl) (h _ rfl)) (aA (ez (wJ (eO (au (aj rfl (aj rfl (aj rfl (aj rfl rfl)))) (I3.right Z)) rfl)) rfl) rfl))⟩
theorem Z3:fn 52 (run (n+8)) [sh, .d (.bytes [97]), .d (.inst .stream [.dict .ks [], .bytes []])] [.tab 0, .tab 1, .dict .ki [], .dict .ks [(.str "Root", .dict .ks [(.str "Type",wL "Catalog")])]]= .exc .i_ [.tab 0, .tab 1, .dict .ki [], .dict .ks [(.str "Root", .dict .ks [(.str "Type",wL "Catalog")])]]:=by kernel_rfl
theorem Z2:fn 52 (run (n+8)) [sh, .d (.bytes [97]), .d (.inst .stream [.dict .ks [], .bytes []])] [.tab 0, .tab 1, .dict .ki [], .dict .ks []]= .exc .i_ [.tab 0, .tab 1, .dict .ki [], .dict .ks []]:=by kernel_rfl
end
section
variable{n k j:Nat}{T T' K K':List (aG×D)}{p p':aH}{os:List aH}{d:D}{nm w:List UInt8}{ds tn:Bool}{rest:Bool->D}{a0 a4 a6 a7 a8 a9 mJ:Option V}
noncomputable abbrev UQ:List (aG×D):=[(.str "Root", .dict .ks [(.str "Type",wL "Catalog")])]
theorem IA:fn 52 (run (n+8)) [.bV 2 (.d (.dict .ks UQ)), .d (.bytes [97]), .d (.inst .stream [.dict .ks [], .bytes []])] [.tab 0, .tab 1, .dict .ki []]= .exc .i_ [.tab 0, .tab 1, .dict .ki []]:=by kernel_rfl
theorem Iz:fn 52 (run (n+8)) [.bV 2 (.d (.dict .ks [])), .d (.bytes [97]), .d (.inst .stream [.dict .ks [], .bytes []])] [.tab 0, .tab 1, .dict .ki []]= .exc .i_ [.tab 0, .tab 1, .dict .ki []]:=by kernel_rfl
inductive GV(n:Nat)(k:Nat)(T:List (aG×D))(p:aH)(os:List aH)(ds:Bool)(tn:Bool)(rest:Bool->D)(a0:Option V)(a4:Option V)(a6:Option V)(a7:Option V)(a8:Option V)(a9:Option V)(mJ:Option V)(c:Nat):Prop
 |mk (Mx p' T' os' j' K' x4 x6 x7 x8 x9) (_:xR ds (k+40) Mx p' T' os' j' K') (_:jb none (aU 6) (GZ (run (n+13))) (jV 0 1 (1+c)) (LC a0 5 (rest ds) a4 tn a6 a7 a8 a9 mJ) (OL p T os)= .ok (.next (LC a0 j' (rest ds) x4 Mx x6 x7 x8 x9 mJ)) (OL p' T' os'))
theorem KW(I:xR ds k tn p T os 5 K)(hk:k<=300)(Z:Wg rest)(hc:c < 2):GV n k T p os ds tn rest a0 a4 a6 a7 a8 a9 mJ c:=by
 obtain⟨t1,p1,T1,R6,j1,K1,x4,x7,x8,x9,hj,I1,h1⟩:=CD (n:=n) (a0:=a0) (a4:=a4) (a6:=some (.d (.int 0))) (a7:=a7) (a8:=a8) (a9:=a9) (mJ:=mJ) I (by exact qq ‹_› rfl) (by decide) Z;rcases CC hc with rfl |rfl
 ·exact⟨t1,p1,T1,R6,j1,K1,_,_,_,_,_,I1.R5 (I1.po.1.up (by exact iR (by decide) k)),fH (vs:=[]) rfl h1 rfl⟩
 ·obtain⟨t2,p2,T2,os2,j2,K2,y4,y7,y8,y9,_,I2,h2⟩:=CD (n:=n) (a0:=a0) (a4:=x4) (a6:=some (.d (.int 1))) (a7:=x7) (a8:=x8) (a9:=x9) (mJ:=mJ) I1 (by exact EI 20 ‹_› rfl) (hj rfl) Z;exact⟨t2,p2,T2,os2,j2,K2,_,_,_,_,_,I2,fH rfl h1 (fH (vs:=[]) rfl h2 rfl)⟩
noncomputable abbrev e63(c:aD)(h:DS):DS:=ao (dw (pL (aE gA (gQ 1 1 (aq (c 44) (aa (af 11) (aa (ai (.bytes [110,111,110,101])) (aa (ai (.fn 0)) ak))))) (ai (.str "tree"))) (pL (aE gA (aO aI (c 71) (af 11) ak) (af 8)) gR)) (ao (aX (ai (.bool false))) av) av) h
set_option tactic.hygienic true in
theorem GU(I:xR ds k tn p T os j K):∃x8:Option V,∀{h:DS}{R:aR Fo},h (LC a0 j (rest ds) a4 tn a6 a7 x8 a9 mJ) (OL p T os)=R->
  ao (ay 8 (aO aI (run (n+13) 71) (af 11) ak)) (e63 (run (n+13)) h) (LC a0 j (rest ds) a4 tn a6 a7 a8 a9 mJ) (OL p T os)=R:=by
 cases I with
 |mk P S W A hd ht=>
 rename_i wy tr fs d_ E;obtain⟨t,PJ,eq⟩:=ZK S.wt S.tl;have told:∀{loc:bL},loc[11]? =some (some KQ)->aO aI (run (n+13) 71) (af 11) ak loc (OL p T os)= .ok (.d t) (OL p T os):=λ{loc} h=>aL (show af 11 loc _= .ok KQ (OL p T os)from by unfold af;rw[h]) rfl rfl (tU (PJ (n+2)) rfl rfl rfl P.aY A.aY);have nn':nn ∉ (fs.map eF.p).map (λZ=>Z.1):=λh=>by
  rw[dB]at h;obtain⟨f,hf,e⟩:=mM h;have:=S.n5 f hf;rw[show f.nm=nn from e]at this;exact absurd this (by decide)
 exact⟨some (.d t),λhh=>aA (asg (told rfl)) (aA (ez (wG (aQ (RI (au (aj rfl (aj rfl (aj rfl rfl))) (Io (n:=n+12) (X0 (n:=n+2) S.hm S.Jv nn') rfl rfl rfl P.aY A.aY))) rfl Rj rfl) (wG (aQ (told rfl) rfl (Rk (eq _ (by decide))) rfl) rfl)) rfl) hh)⟩
end
section
variable{n k j:Nat}{T T' K K':List (aG×D)}{p p':aH}{os:List aH}{d:D}{nm w:List UInt8}{ds tn:Bool}{rest:Bool->D}{a0 a4 a6 a7 a8 a9 mJ:Option V}{fe:DE}{loc:bL}{o:az}
theorem DF(h:fe loc o= .exc .i_ o)(ht:vC o 1 1=true):gQ 1 1 fe loc o= .ok (.d (.str "draft")) o:=by
 unfold gQ;rw[h,ht];show aR.ok (V.d (.str "draft")) (o.take o.length)=_;rw[Ay (Nat.le_refl _)]
noncomputable abbrev r63(c:aD):DS:=ao (ay 10 (aq (i7 mz) (aa (dh true (.dict .ki [])) (aa (eW (aE gi (aq (c 54) (aa (af 1) (aa (ai (.int 2)) ak))) (ai (.int 0))) (cV false .ks (bW (ai (.str "Root")) (cV false .ks (bW (ai (.str "Type")) (aq (jZ .name 1 []) (aa (ai (.str "Catalog")) ak)) fV)) fV)) (dh false (.dict .ks []))) ak)))) (ao (aX (tM (aB gi (gQ 1 1 (aq (c 52) (aa (af 10) (aa (ai (.bytes [97])) (aa (aq (jZ .stream 2 []) (aa (dh false (.dict .ks [])) (aa (ai (.bytes [])) ak))) ak))))) (ai (.str "draft"))) (aB gi (bq "table" (af 10)) (dh false (.dict .ks []))))) av)
theorem Rt:gi (.d (.str s)) (.d (.str s)) o= .ok (.d (.bool true)) o:=by
 show bx (some (decide (s=s))) _=_;rw[cM rfl];rfl
theorem KX(I:xR ds k tn p T os j K)(hk:k<=800):∃o',o'.take 2=O2/\r63 (run (n+13)) (LC a0 j d a4 tn a6 a7 a8 a9 mJ) (OL p T os)= .ok (.ret (.d (.bool true))) o':=by
 cases I with
 |mk P S W A hd ht=>
 obtain⟨c,p1,hc,P1,e1⟩:=HV (m:=2) (.inl rfl) (by exact qq ‹_› rfl) P;have fm:∀{x:aH},x.aY=true->(os++[x]).all aH.aY=true:=λ{x} h=>by rw[List.all_append,A.aY];show(true&&(x.aY&&true))=true;rw[h];rfl
 have f2:(OL p1 T (os++[.dict .ki []])).all aH.aY=true:=QT P1.aY (fm rfl);cases A with
 |a h6 h7=>
  rcases CC hc with rfl |rfl
  ·exact⟨_,rfl,aA (asg (au (aj rfl (aj (mj (aQ (au (aj rfl (aj rfl rfl)) (j8 P (e1 (n+12)) (fm (x:= .dict .ki []) rfl))) rfl rfl rfl) rfl) rfl)) rfl)) (bG (bZ (BG (aN (DF (au (aj rfl (aj rfl (aj (au (aj rfl (aj rfl rfl)) rfl) rfl))) (mG (IA (n:=n+4)) rfl rfl rfl f2 rfl)) rfl) rfl Rt) rfl (aN (di rfl rfl) rfl rfl))))⟩
  ·exact⟨_,rfl,aA (asg (au (aj rfl (aj (lu (aQ (au (aj rfl (aj rfl rfl)) (j8 P (e1 (n+12)) (fm (x:= .dict .ki []) rfl))) rfl rfl rfl) rfl) rfl)) rfl)) (bG (bZ (BG (aN (DF (au (aj rfl (aj rfl (aj (au (aj rfl (aj rfl rfl)) rfl) rfl))) (mG (Iz (n:=n+4)) rfl rfl rfl f2 rfl)) rfl) rfl Rt) rfl (aN (di rfl rfl) rfl rfl))))⟩
 |b hy h6 h7=>
  rcases CC hc with rfl |rfl
  ·exact⟨_,rfl,aA (asg (au (aj rfl (aj (mj (aQ (au (aj rfl (aj rfl rfl)) (j8 P (e1 (n+12)) (fm (x:= .dict .ki []) rfl))) rfl rfl rfl) rfl) rfl)) rfl)) (bG (bZ (BG (aN (DF (au (aj rfl (aj rfl (aj (au (aj rfl (aj rfl rfl)) rfl) rfl))) (mG (IA (n:=n+4)) rfl rfl rfl f2 rfl)) rfl) rfl Rt) rfl (aN (di rfl rfl) rfl rfl))))⟩
  ·exact⟨_,rfl,aA (asg (au (aj rfl (aj (lu (aQ (au (aj rfl (aj rfl rfl)) (j8 P (e1 (n+12)) (fm (x:= .dict .ki []) rfl))) rfl rfl rfl) rfl) rfl)) rfl)) (bG (bZ (BG (aN (DF (au (aj rfl (aj rfl (aj (au (aj rfl (aj rfl rfl)) rfl) rfl))) (mG (Iz (n:=n+4)) rfl rfl rfl f2 rfl)) rfl) rfl Rt) rfl (aN (di rfl rfl) rfl rfl))))⟩
 |c hy h6 h7 hz=>
  rcases CC hc with rfl |rfl
  ·exact⟨_,rfl,aA (asg (au (aj rfl (aj (mj (aQ (au (aj rfl (aj rfl rfl)) (j8 P (e1 (n+12)) (fm (x:= .dict .ki []) rfl))) rfl rfl rfl) rfl) rfl)) rfl)) (bG (bZ (BG (aN (DF (au (aj rfl (aj rfl (aj (au (aj rfl (aj rfl rfl)) rfl) rfl))) (mG (IA (n:=n+4)) rfl rfl rfl f2 rfl)) rfl) rfl Rt) rfl (aN (di rfl rfl) rfl rfl))))⟩
  ·exact⟨_,rfl,aA (asg (au (aj rfl (aj (lu (aQ (au (aj rfl (aj rfl rfl)) (j8 P (e1 (n+12)) (fm (x:= .dict .ki []) rfl))) rfl rfl rfl) rfl) rfl)) rfl)) (bG (bZ (BG (aN (DF (au (aj rfl (aj rfl (aj (au (aj rfl (aj rfl rfl)) rfl) rfl))) (mG (Iz (n:=n+4)) rfl rfl rfl f2 rfl)) rfl) rfl Rt) rfl (aN (di rfl rfl) rfl rfl))))⟩
end
section
variable{n:Nat}{l:List Int}
theorem f63(hl:l.length<=63):fn 63 (run (n+13)) [.d (.list (l.map .int))] O2= .ok (.d (.bool true)) O2:=by
 refine cps λPP kk=> ?_;obtain⟨p0,P0,e0⟩:=f55 hl;obtain⟨p,fl,K,T,tr,way,x6,x7,hw,P,D0,h6,h7,e1⟩:=f60 (n:=n+9) P0 (by decide);obtain⟨fs,d_,E,S,W⟩:=WD D0 hw;obtain⟨rest,Z⟩:=f61;refine kk ?_;clear kk;have A:rG [.dict .kb K,x6,x7] 5 K:= .a h6 h7;generalize gC way tr=wy at e1 S;generalize qK T tr wy=T1 at e1 S;have I:xR wy.ds 30 false p T1 [.dict .kb K,x6,x7] 5 K:= .mk (P.up (by decide)) S W A rfl (λh=>nomatch h);obtain⟨c,p2,hc,P2,e2⟩:=HV (m:=2) (.inl rfl) (by decide) (P.up (k':=30) (by decide));have I2:xR wy.ds 31 false p2 T1 [.dict .kb K,x6,x7] 5 K:=I.R5 P2;obtain⟨tn,p3,T3,VT,j3,K3,x4,y6,y7,y8,y9,I3,h3⟩:=KW (n:=n) (a0:=some (.d (.list (l.map .int)))) (a4:=none) (a6:=none) (a7:=none) (a8:=none) (a9:=none) (mJ:=none) I2 (by decide) Z hc;have ZV:=tU (n:=n+12) (os:=[.dict .kb K,x6,x7]) (args:=[KQ]) (Z.1 T1 wy tr S.hm (n+3)) rfl rfl rfl P.aY A.aY;obtain⟨x8,h5⟩:=GU (n:=n) (rest:=rest) (a0:=some (.d (.list (l.map .int)))) (a4:=x4) (a6:=y6) (a7:=y7) (a8:=y8) (a9:=y9) (mJ:=none) I3;obtain⟨o',ho,h4⟩:=KX (n:=n) (d:=rest wy.ds) (a0:=some (.d (.list (l.map .int)))) (a4:=x4) (a6:=y6) (a7:=y7) (a9:=y9) (mJ:=none) (a8:=x8) I3 (by decide);have l5:=GS S.nd S.n5;have cm:=fQ (out:=bh) (pn:=none) (o:=OL p T1 [.dict .kb K,x6,x7]) (mk:=λf:eF=>V.d (.tup [.bytes f.nm,sG T1 (rf f.s 0)])) (nx:=λf=>(some (V.d (.bytes f.nm)),some (V.d (sG T1 (rf f.s 0))))) (Lo:=λy:Option V×Option V=>some (.d (.list (l.map .int)))::some (.h 2)::some (.h 5)::some (.d (rest wy.ds))::none::none::none::none::none::none::none::some KQ::none::y.1::y.2::List.replicate 9 none) (bd:=jE [13,14]) (e:=af 13) (f:=λf=> .bytes f.nm) (l:=fs) (y:=(none,none)) rfl (λx y=>rfl) (λq hq=>rfl) (by exact pA ‹_› rfl);rw[show fs.map (λf=>D.bytes f.nm)=(fs.map (λZ=>Z.nm)).map .bytes from dB.symm]at cm;have rr:MA (0,(1+(c:Int)),1)=true/\(Builtin.Range.rangeSize 0 (1+(c:Int)) 1).toNat=1+c:=by
  clear cm l5 h4 ho o' h5 x8 ZV h3 I3 y9 y8 tn I2 e2 P2;rcases CC hc with rfl |rfl
  ·exact⟨rfl,rfl⟩
  ·exact⟨rfl,rfl⟩
 have ad:aB cF (ai (.int 1)) (aq (run (n+13) 54) (aa (af 1) (aa (ai (.int 2)) ak))) (LC (some (.d (.list (l.map .int)))) 5 (rest wy.ds) none false none none none none none) (OL p T1 [.dict .kb K,x6,x7])= .ok (.d (.int (1+(c:Int)))) (OL p2 T1 [.dict .kb K,x6,x7]):=aN rfl (au (aj rfl (aj rfl rfl)) (j8 P (e2 (n+12)) A.aY)) rfl;have rg:eE (aa (aB cF (ai (.int 1)) (aq (run (n+13) 54) (aa (af 1) (aa (ai (.int 2)) ak)))) ak) (LC (some (.d (.list (l.map .int)))) 5 (rest wy.ds) none false none none none none none) (OL p T1 [.dict .kb K,x6,x7])= .ok (jV 0 1 (1+c),none) (OL p2 T1 [.dict .kb K,x6,x7]):=(oh (r:=(0,1+(c:Int),1)) (aj ad rfl) rfl rr.1).trans (congrArg (λk=>aR.ok (jV 0 1 k,none) _) rr.2);refine dH rfl (fh (o1:=o') (v:= .d (.bool true)) (aA (asg (au (aj rfl rfl) (bu (e0 (n+12)) rfl rfl rfl rfl rfl))) (aA (lW (au (aj rfl rfl) (bu e1 rfl rfl rfl (show(p0.aY&&true)=true from by rw[P0.aY];rfl) rfl)) rfl) (aA (asg (au (aj rfl rfl) ZV)) (aA (ez (aQ (i6 (jB (au (aj rfl rfl) (tU (Us (n:=n+2) S) rfl rfl rfl P.aY A.aY)) (congrArg some (dB (f:=λf:eF=>D.tup [.bytes f.nm,sG T1 (rf f.s 0)]) (g:=V.d) (l:=fs)))) cm) (au (aj rfl rfl) (W.sorted S.nd S.so l5 rfl rfl)) (Rk C0) rfl) rfl) (aA (asg rfl) (aA (mw rg h3) (h5 h4))))))) rfl (by show aR.ok (V.d (.bool true)) (o'.take 2)=_;rw[ho]))
end
theorem whole:LW.Holds:=HB λl hl=>bu (f63 (n:=26) hl) rfl rfl rfl rfl rfl
end Mine
theorem PySem.Challenge.cw_qz0084_01_holds : PySem.Challenge.rw_qz0084_01.Holds :=
 Mine.whole
