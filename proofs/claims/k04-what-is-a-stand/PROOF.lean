import PyProof.Rows.All
import Wide.All
import OpenK.AllK
import Wide.FinOn
import HandS.ForMost
import HandS.Flow
import HandS.Style
import HandS.IsInst
import HandS.Small
import HandS.Wide
import HandS.TupAny
import HandS.TupLe
import HandS.Zip
import HandS.Conv
import HandS.Strs
import HandS.Replace
import HandS.RaiseMore
import KE.DataEq
import KE.DataCmp
import KE.DataIsa
import KE.DataAny
import KE.DataFind
import KE.DataMinMax
import KE.SortData
import HandS.Set
import HandS.SetFor
import HandS.SetKeys
import KE.KEqNest
import PyProof.RowDictHeap
import HandS.More
import PyProof.SumWalkG
import PyProof.ListOps
import KE.GoesZip
import KE.GoesMore
import HandS.CallRecv
import HandS.Deep
import KE.KDictPairs
import KE.OsArith
import PyProof.Rows.ReprOcc
import PySem.Challenge.RW_seatword_k04_what_is_a_stand
set_option Elab.async false
set_option linter.all false
set_option maxRecDepth 100000
set_option maxHeartbeats 4000000
namespace Sw
open PySem PySem.Spec PyProof.Rows L2
inductive D where
 | non | bl (b:Bool) | int (i:Int) | str (x:Str)
 | tup (ds:List D) | lst (ds:List D) | dic (ks:List Key) (ds:List D)
 | scr (ds:List D) | obj (a:Addr)
inductive MO where
 | lst (ds:List D)
 | dic (kvs:List (Key×D))
 | ins (c:Str) (fs:List (Str×D))
abbrev Za:=Addr→Option MO
def sput (S:Za)(a:Addr)(o:MO):Za:=fun b=>if b=a then some o else S b
def sdel (S:Za)(a:Addr):Za:=fun b=>if b=a then none else S b
@[simp] theorem Zq {S:Za}{a:Addr}{o:MO}:sput S a o a=some o:=by unfold sput;rw[if_pos rfl]
theorem Zo {S:Za}{a b:Addr}{o:MO}(h:b≠a):sput S a o b=S b:=by unfold sput;rw[if_neg h]
theorem U8 {S:Za}{a:Addr}:sdel S a a=none:=by unfold sdel;rw[if_pos rfl]
theorem Xz {S:Za}{a b:Addr}(h:b≠a):sdel S a b=S b:=by unfold sdel;rw[if_neg h]
@[simp] theorem Xo {S:Za}{a:Addr}{o u:MO}:sput (sput S a o) a u=sput S a u:=by
 funext b;unfold sput;split <;> rfl
theorem U9 {S:Za}{a:Addr}{o:MO}(h:S a=none):sdel (sput S a o) a=S:=by
 funext b;unfold sdel sput;split
 · next e=>subst e;exact h.symm
 · rfl
mutual
def D.pure:D→Bool
 | .tup ds=>D.pureAll ds
 | .lst ds=>D.pureAll ds
 | .dic _ ds=>false
 | .scr _=>false
 | .obj _=>false
 | _=>true
def D.pureAll:List D→Bool
 | []=>true
 | d :: r=>D.pure d && D.pureAll r
end
mutual
def D.toP:D→PyData
 | .non=>.none
 | .bl b=>.bool b
 | .int i=>.int i
 | .str x=>.str x
 | .tup ds=>.tuple (D.toPs ds)
 | .lst ds=>.list (D.toPs ds)
 | _=>.none
def D.toPs:List D→List PyData
 | []=>[]
 | d :: r=>D.toP d :: D.toPs r
end
theorem Um:∀ds:List D,D.toPs ds=ds.map D.toP
 | []=>rfl
 | d :: r=>by rw[D.toPs,Um r,List.map_cons]
mutual
theorem XU:∀d:D,d.pure=true→d.toP.plain=true
 | .non,_=>rfl
 | .bl _,_=>rfl
 | .int _,_=>rfl
 | .str _,_=>rfl
 | .tup ds,h=>by rw[D.toP,PyData.plain];exact ZQ ds (by rw[D.pure] at h;exact h)
 | .lst ds,h=>by rw[D.toP,PyData.plain];exact ZQ ds (by rw[D.pure] at h;exact h)
 | .dic _ _,h=>by rw[D.pure] at h;cases h
 | .scr _,h=>by rw[D.pure] at h;cases h
 | .obj _,h=>by rw[D.pure] at h;cases h
theorem ZQ:∀ds:List D,D.pureAll ds=true→PyData.plainAll (D.toPs ds)=true
 | [],_=>rfl
 | d :: r,h=>by
   rw[D.pureAll,Bool.and_eq_true] at h
   rw[D.toPs,PyData.plainAll,XU d h.1,ZQ r h.2]
   rfl
end
def SqS (K:PySem.W.Frag)(H:Hp)(a:Addr)(xs:List V):Prop:=(∃o:Obj,H a=some (.frz o (.lst xs)))∨
 ∃(o:Obj) (its:Array Value) (n:Nat),K.lookup a=some o∧o.cls=.type "list" ∧o.dict=none∧o.data=.seq its n∧its.size≤sizeLine∧Vals xs its.toList
def TupF (_K:PySem.W.Frag)(H:Hp)(a:Addr)(xs:List V):Prop:=∃o:Obj,H a=some (.frz o (.tup xs))∧o.dict=none
theorem TupF.t {K:PySem.W.Frag}{H:Hp}{a:Addr}{xs:List V}(h:TupF K H a xs):SqT K H a xs:=let ⟨o,e,_⟩:=h;.inl (.inr ⟨o,e⟩)
theorem SqS.l {K:PySem.W.Frag}{H:Hp}{a:Addr}{xs:List V}(h:SqS K H a xs):SqL K H a xs:=by
 rcases h with ⟨o,h⟩ | h
 · exact .inl (.inr ⟨o,h⟩)
 · exact .inr h
def DkR (H:Hp)(S:Za)(P:Addr→Prop)(a:Addr)(kvs:List (Key×V)):Prop:=(H a=some (.dK kvs)∧S a=none∧¬P a)∨∃o,H a=some (.frz o (.dK kvs))
theorem DkR.rd {H:Hp}{S:Za}{P:Addr→Prop}{a:Addr}{kvs:List (Key×V)}(h:DkR H S P a kvs):Rd H a (.dK kvs):=by
 rcases h with h | h
 · exact .inl h.1
 · exact .inr h
mutual
inductive Rep (K:PySem.W.Frag)(H:Hp)(S:Za)(P:Addr→Prop):V→D→Prop
 | non:Rep K H S P .non .non
 | bl (b:Bool):Rep K H S P (.bl b) (.bl b)
 | int (i:Int):Rep K H S P (.int i) (.int i)
 | str (x:Str):Rep K H S P (.str x) (.str x)
 | tup {a:Addr} {xs:List V} {ds:List D}:TupF K H a xs→Zb K H S P xs ds→Rep K H S P (.ref a) (.tup ds)
 | lst {a:Addr} {xs:List V} {ds:List D}:H a=some (.lst xs)→S a=none→¬P a→Zb K H S P xs ds→Rep K H S P (.ref a) (.lst ds)
 | dic {a:Addr} {ks:List Key} {xs:List V} {ds:List D}:DkR H S P a (ks.zip xs)→ks.length=xs.length→Zb K H S P xs ds→Rep K H S P (.ref a) (.dic ks ds)
 | scr {a:Addr} {xs:List V} {ds:List D}:SqS K H a xs→Zb K H S P xs ds→Rep K H S P (.ref a) (.scr ds)
 | obj (a:Addr):Rep K H S P (.ref a) (.obj a)
inductive Zb (K:PySem.W.Frag)(H:Hp)(S:Za)(P:Addr→Prop):List V→List D→Prop
 | nil:Zb K H S P [] []
 | cons {v:V} {vs:List V} {d:D} {ds:List D}:Rep K H S P v d→Zb K H S P vs ds→Zb K H S P (v :: vs) (d :: ds)
end
def Kp (o:HO)(x:Option HO):Prop:=x=some o∨∃od kvs,o=.dK kvs∧x=some (.frz od o)
theorem Kp.eq {o:HO}{x:Option HO}(h:Kp o x)(n:∀kvs,o≠.dK kvs):x=some o:=by
 rcases h with h |⟨_,_,e,_⟩
 · exact h
 · exact(n _ e).elim
theorem Kp.rd {H:Hp}{a:Addr}{kvs:List (Key×V)}(h:Kp (.dK kvs) (H a)):Rd H a (.dK kvs):=by
 rcases h with h |⟨od,_,_,h⟩
 · exact .inl h
 · exact .inr ⟨od,h⟩
theorem Vn {H:Hp}{a:Addr}{kvs:List (Key×V)}{k:Key}(e:Rd H a (.dK kvs)):DGet H a (kV k) (valV kvs k):=.inl ⟨kvs,k,e,rfl,rfl⟩
theorem Zik {K:PySem.W.Frag}{H:Hp}{a:Addr}{kvs:List (Key×V)}(e:Rd H a (.dK kvs)):TyX K H (.ref a) (.type "dict"):=by
 rcases e with e |⟨_,e⟩
 · exact .base (.dK e)
 · exact .fDict e
theorem ZgT {X:Cx}:CallR X (.builtin "len") (fun xs H Q=>∃a kvs,xs=[V.ref a]∧Rd H a (.dK kvs)∧Q (.int kvs.length) H):=by
 intro pins s σ H xs us Q I r h
 obtain⟨a,kvs,rfl,ha,q⟩:=h
 obtain⟨u,rfl,ru⟩:=vals1 r
 cases ru
 exact d_len I ha fun t s' I'=>⟨.int kvs.length,H,I',⟨t,rfl⟩,q⟩
def Le (H:Hp)(S:Za)(P:Addr→Prop)(H':Hp)(S':Za):Prop:=
 (∀a o,H a=some o→S a=none→¬P a→Kp o (H' a)∧S' a=none)∧(∀a,P a→H' a=H a∧S' a=none)
abbrev ClsT:=Str→Option Addr
def MOk (K:PySem.W.Frag)(cl:ClsT)(H:Hp)(S:Za)(P:Addr→Prop)(a:Addr):MO→Prop
 | .lst ds=>∃xs,H a=some (.lst xs)∧Zb K H S P xs ds
 | .dic kvs=>∃vs:List V,vs.length=kvs.length∧H a=some (.dK ((kvs.map (·.1)).zip vs))∧(kvs.map (·.1)).Nodup∧Zb K H S P vs (kvs.map (·.2))
 | .ins c fs=>∃(C dx:Addr) (vs:List V),cl c=some C∧vs.length=fs.length∧H a=some (.ins C dx ((fs.map (·.1)).zip vs))∧Zb K H S P vs (fs.map (·.2))
def MutL (o:HO):Prop:=Mut (some o)∨∃od kvs,o=.frz od (.dK kvs)
structure RS (K:PySem.W.Frag)(cl:ClsT)(H:Hp)(S:Za)(P:Addr→Prop):Prop where
 own:∀a o,S a=some o→¬P a∧MOk K cl H S P a o
 hid:∀a,P a→S a=none∧∃o,H a=some o∧MutL o
 sm:∃o,H sysModules=some o∧¬Mut (some o)
section
variable {K:PySem.W.Frag}{cl:ClsT}{H H' H'':Hp}{S S' S'':Za}{P:Addr→Prop}
theorem Le.refl (r:RS K cl H S P):Le H S P H S:=⟨fun _ _ h s _=>⟨.inl h,s⟩,fun a p=>⟨rfl,(r.hid a p).1⟩⟩
theorem Le.trans (h:Le H S P H' S')(h':Le H' S' P H'' S''):Le H S P H'' S'':=by
 refine⟨fun a o e s p=>?_,fun a p=>?_⟩
 · obtain⟨e1,s1⟩:=h.1 a o e s p
   rcases e1 with e1 |⟨od,kvs,rfl,e1⟩
   · exact h'.1 a o e1 s1 p
   · obtain⟨e2,s2⟩:=h'.1 a _ e1 s1 p
     exact⟨.inr ⟨od,kvs,rfl,e2.eq fun _ z=>nomatch z⟩,s2⟩
 · obtain⟨e1,_⟩:=h.2 a p
   obtain⟨e2,s2⟩:=h'.2 a p
   exact⟨e2.trans e1,s2⟩
theorem RS.notO (r:RS K cl H S P){a:Addr}{o:HO}(h:H a=some o)(m:¬Mut (some o)):S a=none:=by
 cases e:S a with
 | none=>rfl
 | some mo=>
   obtain⟨_,k⟩:=r.own a mo e
   cases mo with
   | lst ds=>obtain⟨xs,q,_⟩:=k;rw[h] at q;cases q;exact(m trivial).elim
   | dic kvs=>obtain⟨vs,_,q,_⟩:=k;rw[h] at q;cases q;exact(m trivial).elim
   | ins c fs=>obtain⟨C,dx,vs,_,_,q,_⟩:=k;rw[h] at q;cases q;exact(m trivial).elim
theorem Le.frzAt (r:RS K cl H S P)(le:Le H S P H' S'){a:Addr}{o:Obj}{u:HO}(h:H a=some (.frz o u)):H' a=some (.frz o u):=by
 by_cases q:P a
 · rw[(le.2 a q).1];exact h
 · exact(le.1 a _ h (r.notO h (fun z=>z)) q).1.eq fun _ z=>nomatch z
theorem RS.tupAt (r:RS K cl H S P)(le:Le H S P H' S'){a:Addr}{xs:List V}(h:TupF K H a xs):TupF K H' a xs:=by
 obtain⟨o,h,n⟩:=h
 exact⟨o,Le.frzAt r le h,n⟩
theorem RS.scrAt (r:RS K cl H S P)(le:Le H S P H' S'){a:Addr}{xs:List V}(h:SqS K H a xs):SqS K H' a xs:=by
 rcases h with ⟨o,h⟩ | h
 · exact .inl ⟨o,Le.frzAt r le h⟩
 · exact .inr h
theorem RS.rdAt (r:RS K cl H S P)(le:Le H S P H' S'){a:Addr}{kvs:List (Key×V)}(h:DkR H S P a kvs):DkR H' S' P a kvs:=by
 rcases h with ⟨h,s,p⟩ |⟨o,h⟩
 · rcases (le.1 a _ h s p).1 with e |⟨od,_,_,e⟩
   · exact .inl ⟨e,(le.1 a _ h s p).2,p⟩
   · exact .inr ⟨od,e⟩
 · exact .inr ⟨o,Le.frzAt r le h⟩
mutual
theorem Rep.le (r:RS K cl H S P)(le:Le H S P H' S'):∀ {v:V} (d:D),Rep K H S P v d→Rep K H' S' P v d
 | _,.non,.non=>.non
 | _,.bl _,.bl b=>.bl b
 | _,.int _,.int i=>.int i
 | _,.str _,.str x=>.str x
 | _,.tup ds,.tup h hs=>.tup (r.tupAt le h) (Zb.le r le ds hs)
 | _,.lst ds,.lst h s p hs=>.lst ((le.1 _ _ h s p).1.eq fun _ z=>nomatch z) (le.1 _ _ h s p).2 p (Zb.le r le ds hs)
 | _,.dic ks ds,.dic h l hs=>.dic (r.rdAt le h) l (Zb.le r le ds hs)
 | _,.scr ds,.scr h hs=>.scr (r.scrAt le h) (Zb.le r le ds hs)
 | _,.obj _,.obj a=>.obj a
theorem Zb.le (r:RS K cl H S P)(le:Le H S P H' S'):∀ {vs:List V} (ds:List D),Zb K H S P vs ds→Zb K H' S' P vs ds
 | _,[],.nil=>.nil
 | _,d :: ds,.cons h hs=>.cons (Rep.le r le d h) (Zb.le r le ds hs)
end
theorem Zb.length:∀ {vs:List V} {ds:List D},Zb K H S P vs ds→vs.length=ds.length
 | _,_,.nil=>rfl
 | _,_,.cons _ h=>by rw[List.length_cons,List.length_cons,Zb.length h]
theorem Zb.get:∀ {vs:List V} {ds:List D} {i:Nat} {d:D},Zb K H S P vs ds→ds[i]?=some d→∃v,vs[i]?=some v∧Rep K H S P v d
 | _,_,_,_,.nil,e=>by simp at e
 | _,_,0,d,.cons h _,e=>by simp at e;subst e;exact⟨_,rfl,h⟩
 | _,_,i+1,d,.cons _ h,e=>by
   obtain⟨v,e1,r⟩:=Zb.get (i:=i) h (by simpa using e)
   exact⟨v,by simpa using e1,r⟩
theorem Zb.get':∀ {vs:List V} {ds:List D} {i:Nat} {v:V},Zb K H S P vs ds→vs[i]?=some v→∃d,ds[i]?=some d∧Rep K H S P v d
 | _,_,_,_,.nil,e=>by simp at e
 | _,_,0,d,.cons h _,e=>by simp at e;subst e;exact⟨_,rfl,h⟩
 | _,_,i+1,d,.cons _ h,e=>by
   obtain⟨v,e1,r⟩:=Zb.get' (i:=i) h (by simpa using e)
   exact⟨v,by simpa using e1,r⟩
theorem Zb.app:∀ {vs ws:List V} {ds es:List D},Zb K H S P vs ds→Zb K H S P ws es→Zb K H S P (vs++ws) (ds++es)
 | _,_,_,_,.nil,h=>h
 | _,_,_,_,.cons h hs,h'=>.cons h (Zb.app hs h')
theorem Zb.drop:∀ {vs:List V} {ds:List D} (n:Nat),Zb K H S P vs ds→Zb K H S P (vs.drop n) (ds.drop n)
 | _,_,0,h=>h
 | _,_,_+1,.nil=>.nil
 | _,_,n+1,.cons _ h=>Zb.drop n h
theorem Zb.take:∀ {vs:List V} {ds:List D} (n:Nat),Zb K H S P vs ds→Zb K H S P (vs.take n) (ds.take n)
 | _,_,0,_=>.nil
 | _,_,_+1,.nil=>.nil
 | _,_,n+1,.cons h t=>.cons h (Zb.take n t)
theorem Zb.set:∀ {vs:List V} {ds:List D} {v:V} {d:D} (n:Nat),Zb K H S P vs ds→Rep K H S P v d→Zb K H S P (vs.set n v) (ds.set n d)
 | _,_,_,_,_,.nil,_=>.nil
 | _,_,_,_,0,.cons _ t,r=>.cons r t
 | _,_,_,_,n+1,.cons h t,r=>.cons h (Zb.set n t r)
theorem Zb.reverse:∀ {vs:List V} {ds:List D},Zb K H S P vs ds→Zb K H S P vs.reverse ds.reverse
 | _,_,.nil=>.nil
 | _,_,.cons h t=>by rw[List.reverse_cons,List.reverse_cons];exact Zb.app (Zb.reverse t) (.cons h .nil)
theorem Zb.erase:∀ {vs:List V} {ds:List D} (n:Nat),Zb K H S P vs ds→Zb K H S P (vs.eraseIdx n) (ds.eraseIdx n)
 | _,_,_,.nil=>.nil
 | _,_,0,.cons _ t=>t
 | _,_,n+1,.cons h t=>.cons h (Zb.erase n t)
theorem RS.le_own (r:RS K cl H S P)(le:Le H S P H' S'){a:Addr}{o:MO}(m:MOk K cl H S P a o)(hh:H' a=H a):MOk K cl H' S' P a o:=by
 cases o with
 | lst ds=>obtain⟨xs,e,q⟩:=m;exact⟨xs,hh.trans e,Zb.le r le _ q⟩
 | dic kvs=>obtain⟨vs,l,e,n,q⟩:=m;exact⟨vs,l,hh.trans e,n,Zb.le r le _ q⟩
 | ins c fs=>obtain⟨C,dx,vs,c,l,e,q⟩:=m;exact⟨C,dx,vs,c,l,hh.trans e,Zb.le r le _ q⟩
theorem Le.new (r:RS K cl H S P){p:Addr}{o:HO}(hp:H p=none):Le H S P (upd H p o) S:=
 ⟨fun a u e s _=>⟨.inl (by rw[upd_ne (ne_of_none e hp)];exact e),s⟩,fun a q=>by
  obtain⟨s,xs,e,_⟩:=r.hid a q
  exact⟨by rw[upd_ne (ne_of_none e hp)],s⟩⟩
theorem XL {o:HO}(r:RS K cl H S P){p:Addr}(h:H p=none∨∃u,H p=some u∧Mut (some u)):∃u,upd H p o sysModules=some u∧¬Mut (some u):=by
 obtain⟨u,e,n⟩:=r.sm
 refine⟨u,?_,n⟩
 rw[upd_ne (fun z=>?_)]
 · exact e
 · rw[z] at e
   rcases h with h |⟨v,h,m⟩
   · rw[h] at e;cases e
   · rw[h] at e;cases e;exact n m
theorem MOk.mut {a:Addr}{mo:MO}(m:MOk K cl H S P a mo):∃u,H a=some u∧Mut (some u):=by
 cases mo with
 | lst ds=>obtain⟨xs,e,_⟩:=m;exact⟨_,e,trivial⟩
 | dic kvs=>obtain⟨_,_,e,_⟩:=m;exact⟨_,e,trivial⟩
 | ins c fs=>obtain⟨_,_,_,_,_,e,_⟩:=m;exact⟨_,e,trivial⟩
theorem RS.new (r:RS K cl H S P){p:Addr}{o:HO}(hp:H p=none):RS K cl (upd H p o) S P:=by
 have le:=Le.new (o:=o) r hp
 refine⟨fun a mo e=>?_,fun a q=>?_,XL r (.inl hp)⟩
 · obtain⟨np,m⟩:=r.own a mo e
   refine⟨np,r.le_own le m ?_⟩
   have:∃u,H a=some u:=by
    cases mo with
    | lst ds=>obtain⟨xs,e,_⟩:=m;exact⟨_,e⟩
    | dic kvs=>obtain⟨_,_,e,_⟩:=m;exact⟨_,e⟩
    | ins c fs=>obtain⟨_,_,_,_,_,e,_⟩:=m;exact⟨_,e⟩
   obtain⟨u,e⟩:=this
   rw[upd_ne (ne_of_none e hp)]
 · obtain⟨s,xs,e,mu⟩:=r.hid a q
   exact⟨s,xs,by rw[upd_ne (ne_of_none e hp)];exact e,mu⟩
theorem RS.none_of (r:RS K cl H S P){p:Addr}(hp:H p=none):S p=none∧¬P p:=by
 have np:¬P p:=fun q=>by obtain⟨_,xs,e,_⟩:=r.hid p q;rw[hp] at e;cases e
 refine⟨?_,np⟩
 cases e:S p with
 | none=>rfl
 | some mo=>
   obtain⟨_,m⟩:=r.own p mo e
   cases mo with
   | lst ds=>obtain⟨xs,e,_⟩:=m;rw[hp] at e;cases e
   | dic kvs=>obtain⟨_,_,e,_⟩:=m;rw[hp] at e;cases e
   | ins c fs=>obtain⟨_,_,_,_,_,e,_⟩:=m;rw[hp] at e;cases e
theorem Le.newOwn (r:RS K cl H S P){p:Addr}{o:HO}{mo:MO}(hp:H p=none):Le H S P (upd H p o) (sput S p mo):=
 ⟨fun a u e s _=>⟨.inl (by rw[upd_ne (ne_of_none e hp)];exact e),by rw[Zo (ne_of_none e hp)];exact s⟩,fun a q=>by
  obtain⟨s,xs,e,_⟩:=r.hid a q
  exact⟨by rw[upd_ne (ne_of_none e hp)],by rw[Zo (ne_of_none e hp)];exact s⟩⟩
theorem RS.newOwn (r:RS K cl H S P){p:Addr}{xs:List V}{ds:List D}(hp:H p=none)(q:Zb K H S P xs ds):RS K cl (upd H p (.lst xs)) (sput S p (.lst ds)) P:=by
 have le:Le H S P (upd H p (.lst xs)) (sput S p (.lst ds)):=Le.newOwn r hp
 refine⟨fun a mo e=>?_,fun a z=>?_,XL r (.inl hp)⟩
 · by_cases ha:a=p
   · subst ha
     rw[Zq] at e;cases e
     exact⟨(r.none_of hp).2,xs,upd_same,Zb.le r le _ q⟩
   · rw[Zo ha] at e
     obtain⟨np,m⟩:=r.own a mo e
     exact⟨np,r.le_own le m (upd_ne ha)⟩
 · obtain⟨s,xs,e,mu⟩:=r.hid a z
   exact⟨by rw[Zo (ne_of_none e hp)];exact s,xs,by rw[upd_ne (ne_of_none e hp)];exact e,mu⟩
theorem Le.put (r:RS K cl H S P){p:Addr}{o:HO}{mo mo':MO}(hp:S p=some mo):Le H S P (upd H p o) (sput S p mo'):=by
 have np:=(r.own p mo hp).1
 refine⟨fun a u e s _=>?_,fun a q=>?_⟩
 · have:a≠p:=fun z=>by subst z;rw[hp] at s;cases s
   exact⟨.inl (by rw[upd_ne this];exact e),by rw[Zo this];exact s⟩
 · have:a≠p:=fun z=>by subst z;exact np q
   exact⟨by rw[upd_ne this],by rw[Zo this];exact(r.hid a q).1⟩
theorem RS.put (r:RS K cl H S P){p:Addr}{o:HO}{mo mo':MO}(hp:S p=some mo)(m:MOk K cl (upd H p o) (sput S p mo') P p mo'):RS K cl (upd H p o) (sput S p mo') P:=by
 have le:Le H S P (upd H p o) (sput S p mo'):=Le.put r hp
 refine⟨fun a u e=>?_,fun a z=>?_,XL r (.inr (r.own p mo hp).2.mut)⟩
 · by_cases ha:a=p
   · subst ha
     rw[Zq] at e;cases e
     exact⟨(r.own a mo hp).1,m⟩
   · rw[Zo ha] at e
     obtain⟨np,m⟩:=r.own a u e
     exact⟨np,r.le_own le m (upd_ne ha)⟩
 · have:a≠p:=fun q=>by subst q;exact(r.own a mo hp).1 z
   obtain⟨s,xs,e,mu⟩:=r.hid a z
   exact⟨by rw[Zo this];exact s,xs,by rw[upd_ne this];exact e,mu⟩
theorem Le.drop (r:RS K cl H S P){S':Za}(h:∀a o,S' a=some o→S a=some o):Le H S P H S':=
 ⟨fun a u e s _=>⟨.inl e,by
  cases q:S' a with
  | none=>rfl
  | some o=>have:=h a o q;rw[s] at this;cases this⟩,fun a z=>⟨rfl,by
  cases q:S' a with
  | none=>rfl
  | some o=>have:=h a o q;rw[(r.hid a z).1] at this;cases this⟩⟩
theorem RS.drop (r:RS K cl H S P){S':Za}(h:∀a o,S' a=some o→S a=some o):RS K cl H S' P:=
 ⟨fun a o e=>⟨(r.own a o (h a o e)).1,r.le_own (Le.drop r h) (r.own a o (h a o e)).2 rfl⟩,fun a z=>⟨((Le.drop r h).2 a z).2,(r.hid a z).2⟩,r.sm⟩
theorem Uh {S:Za}{p a:Addr}{o:MO}(h:sdel S p a=some o):S a=some o:=by
 unfold sdel at h
 split at h
 · cases h
 · exact h
theorem RS.freeze (r:RS K cl H S P){p:Addr}{ds:List D}(hp:S p=some (.lst ds)):Rep K H (sdel S p) P (.ref p) (.lst ds):=by
 obtain⟨np,xs,e,q⟩:=r.own p _ hp
 exact .lst e U8 np (Zb.le r (Le.drop r fun a o=>Uh) _ q)
theorem RS.freezeD (r:RS K cl H S P){p:Addr}{kvs:List (Key×D)}(hp:S p=some (.dic kvs)):Rep K H (sdel S p) P (.ref p) (.dic (kvs.map (·.1)) (kvs.map (·.2))):=by
 obtain⟨np,vs,l,e,_,q⟩:=r.own p _ hp
 exact .dic (.inl ⟨e,U8,np⟩) (by rw[List.length_map,l]) (Zb.le r (Le.drop r fun a o=>Uh) _ q)
end
abbrev DEnv:=List (Option D)
def REnv (K:PySem.W.Frag)(H:Hp)(S:Za)(P:Addr→Prop)(σ:L2.St)(ρ:DEnv):Prop:=
 ρ.length=σ.length∧∀(i:Nat)(d:D),ρ[i]?=some (some d)→∃v,σ[i]?=some (some v)∧Rep K H S P v d
section
variable {K:PySem.W.Frag}{cl:ClsT}{H H':Hp}{S S':Za}{P:Addr→Prop}{σ:L2.St}{ρ:DEnv}
theorem REnv.le (r:RS K cl H S P)(le:Le H S P H' S')(e:REnv K H S P σ ρ):REnv K H' S' P σ ρ:=
 ⟨e.1,fun i d h=>let ⟨v,h1,h2⟩:=e.2 i d h;⟨v,h1,Rep.le r le d h2⟩⟩
theorem REnv.set (e:REnv K H S P σ ρ){v:V}{d:D}(i:Nat)(h:Rep K H S P v d):REnv K H S P (σ.set i (some v)) (ρ.set i (some d)):=by
 refine⟨by rw[List.length_set,List.length_set];exact e.1,fun j d' hj=>?_⟩
 by_cases hi:i=j
 · subst hi
   by_cases hl:i<ρ.length
   · rw[List.getElem?_set_self hl] at hj
     cases hj
     exact⟨v,List.getElem?_set_self (by have:=e.1;omega),h⟩
   · rw[List.getElem?_eq_none (by simpa using hl)] at hj;cases hj
 · rw[List.getElem?_set_ne hi] at hj
   rw[List.getElem?_set_ne hi]
   exact e.2 j d' hj
end
def Zx (P:Addr→Prop)(p:Addr):Addr→Prop:=fun a=>P a∨a=p
section
variable {K:PySem.W.Frag}{cl:ClsT}{H:Hp}{S:Za}{P:Addr→Prop}{p:Addr}{o:HO}
mutual
theorem Rep.hide (hp:H p=none):∀ {v:V} (d:D),Rep K H S P v d→Rep K (upd H p o) S (Zx P p) v d
 | _,.non,.non=>.non
 | _,.bl _,.bl b=>.bl b
 | _,.int _,.int i=>.int i
 | _,.str _,.str x=>.str x
 | _,.tup ds,.tup h hs=>.tup (by
   obtain⟨o,h,n⟩:=h
   exact⟨o,by rw[upd_ne (ne_of_none h hp)];exact h,n⟩) (Zb.hide hp ds hs)
 | _,.lst ds,.lst h s q hs=>.lst (by rw[upd_ne (ne_of_none h hp)];exact h) s (fun z=>z.elim q (ne_of_none h hp)) (Zb.hide hp ds hs)
 | _,.dic ks ds,.dic h l hs=>.dic (by
   rcases h with ⟨h,s,q⟩ |⟨o,h⟩
   · exact .inl ⟨by rw[upd_ne (ne_of_none h hp)];exact h,s,fun z=>z.elim q (ne_of_none h hp)⟩
   · exact .inr ⟨o,by rw[upd_ne (ne_of_none h hp)];exact h⟩) l (Zb.hide hp ds hs)
 | _,.scr ds,.scr h hs=>.scr (by
   rcases h with ⟨o,h⟩ | h
   · exact .inl ⟨o,by rw[upd_ne (ne_of_none h hp)];exact h⟩
   · exact .inr h) (Zb.hide hp ds hs)
 | _,.obj _,.obj a=>.obj a
theorem Zb.hide (hp:H p=none):∀ {vs:List V} (ds:List D),Zb K H S P vs ds→Zb K (upd H p o) S (Zx P p) vs ds
 | _,[],.nil=>.nil
 | _,d :: ds,.cons h hs=>.cons (Rep.hide hp d h) (Zb.hide hp ds hs)
end
mutual
theorem Rep.show (m:∃u,H p=some u∧Mut (some u)):∀ {v:V} (d:D),Rep K H S (Zx P p) v d→Rep K (upd H p o) S P v d
 | _,.non,.non=>.non
 | _,.bl _,.bl b=>.bl b
 | _,.int _,.int i=>.int i
 | _,.str _,.str x=>.str x
 | _,.tup ds,.tup h hs=>.tup (by
   obtain⟨u,e,mu⟩:=m
   obtain⟨o,h,n⟩:=h
   exact⟨o,by rw[upd_ne (fun z=>by subst z;rw[h] at e;cases e;exact mu)];exact h,n⟩) (Zb.show m ds hs)
 | _,.lst ds,.lst h s q hs=>.lst (by rw[upd_ne (fun z=>q (.inr z))];exact h) s (fun z=>q (.inl z)) (Zb.show m ds hs)
 | _,.dic ks ds,.dic h l hs=>.dic (by
   obtain⟨u,e,mu⟩:=m
   rcases h with ⟨h,s,q⟩ |⟨o,h⟩
   · exact .inl ⟨by rw[upd_ne (fun z=>q (.inr z))];exact h,s,fun z=>q (.inl z)⟩
   · exact .inr ⟨o,by rw[upd_ne (fun z=>by rw[z,e] at h;cases h;exact mu)];exact h⟩) l (Zb.show m ds hs)
 | _,.scr ds,.scr h hs=>.scr (by
   obtain⟨u,e,mu⟩:=m
   rcases h with ⟨o,h⟩ | h
   · exact .inl ⟨o,by rw[upd_ne (fun z=>by subst z;rw[h] at e;cases e;exact mu)];exact h⟩
   · exact .inr h) (Zb.show m ds hs)
 | _,.obj _,.obj a=>.obj a
theorem Zb.show (m:∃u,H p=some u∧Mut (some u)):∀ {vs:List V} (ds:List D),Zb K H S (Zx P p) vs ds→Zb K (upd H p o) S P vs ds
 | _,[],.nil=>.nil
 | _,d :: ds,.cons h hs=>.cons (Rep.show m d h) (Zb.show m ds hs)
end
theorem MOk.some {a:Addr}{mo:MO}(m:MOk K cl H S P a mo):∃u,H a=some u:=by
 cases mo with
 | lst ds=>obtain⟨xs,e,_⟩:=m;exact⟨_,e⟩
 | dic kvs=>obtain⟨_,_,e,_⟩:=m;exact⟨_,e⟩
 | ins c fs=>obtain⟨_,_,_,_,_,e,_⟩:=m;exact⟨_,e⟩
theorem RS.hide (r:RS K cl H S P)(hp:H p=none)(mu:Mut (some o)):RS K cl (upd H p o) S (Zx P p):=by
 refine⟨fun a mo e=>?_,fun a z=>?_,XL r (.inl hp)⟩
 · obtain⟨np,m⟩:=r.own a mo e
   obtain⟨u,hu⟩:=m.some
   have ne:=ne_of_none hu hp
   refine⟨fun z=>z.elim np ne,?_⟩
   cases mo with
   | lst ds=>obtain⟨xs,e,q⟩:=m;exact⟨xs,by rw[upd_ne ne];exact e,Zb.hide hp _ q⟩
   | dic kvs=>obtain⟨vs,l,e,n,q⟩:=m;exact⟨vs,l,by rw[upd_ne ne];exact e,n,Zb.hide hp _ q⟩
   | ins c fs=>obtain⟨C,dx,vs,c,l,e,q⟩:=m;exact⟨C,dx,vs,c,l,by rw[upd_ne ne];exact e,Zb.hide hp _ q⟩
 · rcases z with z | z
   · obtain⟨s,u,e,mu⟩:=r.hid a z
     exact⟨s,u,by rw[upd_ne (ne_of_none e hp)];exact e,mu⟩
   · subst z
     exact⟨(r.none_of hp).1,o,upd_same,.inl mu⟩
theorem RS.show (r:RS K cl H S (Zx P p))(np:¬P p)(m:∃u,H p=some u∧Mut (some u)):RS K cl (upd H p o) S P:=by
 refine⟨fun a mo e=>?_,fun a z=>?_,XL r (.inr m)⟩
 · obtain⟨nq,k⟩:=r.own a mo e
   have ne:a≠p:=fun z=>nq (.inr z)
   refine⟨fun z=>nq (.inl z),?_⟩
   cases mo with
   | lst ds=>obtain⟨xs,e,q⟩:=k;exact⟨xs,by rw[upd_ne ne];exact e,Zb.show m _ q⟩
   | dic kvs=>obtain⟨vs,l,e,n,q⟩:=k;exact⟨vs,l,by rw[upd_ne ne];exact e,n,Zb.show m _ q⟩
   | ins c fs=>obtain⟨C,dx,vs,c,l,e,q⟩:=k;exact⟨C,dx,vs,c,l,by rw[upd_ne ne];exact e,Zb.show m _ q⟩
 · have ne:a≠p:=fun q=>np (q▸z)
   obtain⟨s,u,e,mu⟩:=r.hid a (.inl z)
   exact⟨s,u,by rw[upd_ne ne];exact e,mu⟩
theorem REnv.hide {σ:L2.St}{ρ:DEnv}(hp:H p=none)(e:REnv K H S P σ ρ):REnv K (upd H p o) S (Zx P p) σ ρ:=
 ⟨e.1,fun i d h=>let ⟨v,h1,h2⟩:=e.2 i d h;⟨v,h1,Rep.hide hp d h2⟩⟩
theorem Le.show {H1:Hp}{S1:Za}{u:HO}(hp:H p=none)(np0:¬P p)(le:Le (upd H p u) S (Zx P p) H1 S1):Le H S P (upd H1 p o) S1:=by
 refine⟨fun a w e s np=>?_,fun a z=>?_⟩
 · have ne:=ne_of_none e hp
   obtain⟨h1,h2⟩:=le.1 a w (by rw[upd_ne ne];exact e) s (fun z=>z.elim np ne)
   exact⟨by rw[upd_ne ne];exact h1,h2⟩
 · obtain⟨h1,h2⟩:=le.2 a (.inl z)
   by_cases ne:a=p
   · subst ne
     exact(np0 z).elim
   · rw[upd_ne ne] at h1
     exact⟨by rw[upd_ne ne];exact h1,h2⟩
end
def hasK (ks:List Key)(k:Key):Bool:=ks.any fun j=>decide (j=k)
def addK (ks:List Key)(k:Key):List Key:=if hasK ks k=true then ks else ks++[k]
def Yp (ks:List Key):List Key:=ks.foldl addK []
end Sw
namespace Sw
open PySem PySem.Spec PyProof.Rows L2
def kOf (v:Value):Key:=match v with | .int i _=>.inl i | .str x _=>.inr x | _=>.inl 0
theorem Zhp {k:Key}{v:Value}(h:RelV (kV k) v):kOf v=k:=by
 cases k with
 | inl i=>obtain⟨t,rfl⟩:=(show ∃t,v=Value.int i t from h);rfl
 | inr x=>obtain⟨t,rfl⟩:=(show ∃t,v=Value.str x t from h);rfl
def EntK (P:Program)(w:World)(e:Int×Value):Prop:=RelV (kV (kOf e.2)) e.2∧e.1=(mixKind P w).hash (kOf e.2)
theorem Zk2 {P:Program}{w:World}{k:Key}{v:Value}(h:RelV (kV k) v):EntK P w ((mixKind P w).hash k,v):=by
 have e:=Zhp h
 exact⟨by show RelV (kV (kOf v)) v;rw[e];exact h,by show _=(mixKind P w).hash (kOf v);rw[e]⟩
theorem Ze4 {P:Program}{w:World}{e:Int×Value}(h:EntK P w e)(k:Key):(mixKind P w).is k e.2=true↔kOf e.2=k:=
 ⟨fun z=>(mixKind P w).inj _ _ _ (kV_is h.1) z,fun z=>by rw[← z];exact kV_is h.1⟩
theorem ZiV {P:Program}{w:World}{l:List (Int×Value)}(h:∀e∈l,EntK P w e):ElemsOf (mixKind P w) l:=fun e he=>
 ⟨⟨kOf e.2,kV_is (h e he).1,(h e he).2⟩,key_scan (h e he).1⟩
def V4 (es:Array (Int×Value)):List Key:=es.toList.map fun e=>kOf e.2
def Yn (P:Program)(w:World)(h:Heap)(a:Addr)(ks:List Key):Prop:=∃(o:Obj) (es:Array (Int×Value)) (ep:Nat) (t:SetTable),h.get? a=some o∧o.ExactSet∧o.data=.set es ep t∧(∀e∈es.toList,EntK P w e)∧
 (V4 es).Perm ks∧ks.Nodup∧es.size<scanBound∧t.fits es.size=true∧Ris t.place.toList∧(w.params.followText "set-order" = true∨t.led=true)
section
variable {P:Program}{w:World}{A:Around}{E:Value→Shared→Prop}{s:Shared}{h h':Heap}{a:Addr}{ks:List Key}
theorem Yn.at (R:Yn P w h a ks)(k:∀o,h.get? a=some o→h'.get? a=some o):Yn P w h' a ks:=let ⟨o,es,ep,t,e,r⟩:=R;⟨o,es,ep,t,k o e,r⟩
theorem Yn.len (R:Yn P w h a ks):ks.length<scanBound:=by
 obtain⟨o,es,ep,t,e,x,d,g,pm,nd,hb,r⟩:=R
 have:=pm.length_eq
 unfold V4 at this
 rw[List.length_map,Array.length_toList] at this
 omega
theorem Zdf {ks:List Key}{k:Key}:hasK ks k=true↔k∈ks:=by
 unfold hasK
 rw[List.any_eq_true]
 exact⟨fun⟨j,hj,e⟩=>of_decide_eq_true e▸hj,fun hk=>⟨k,hk,decide_eq_true rfl⟩⟩
theorem ZbQ {gv:Bool→Sem Unit}(free:∀(b:Bool)(s₁:Shared)(Z:Unit→Shared→Prop),Z () s₁→wpAny (model P w) A (gv b) Z E s₁){o:Obj}{es fs:Array (Int×Value)}{ep:Nat}{t u:SetTable}{was:Bool}{R:Option Bool→Shared→Prop}
  (at0:s.heap.get? a=some o) (ex:o.ExactSet) (dt:o.data=.set es ep t) (ge:∀e∈fs.toList,EntK P w e) (pm:(V4 fs).Perm ks) (nd:ks.Nodup) (few:fs.size<scanBound) (ft:u.fits fs.size=true) (ri:Ris u.place.toList)
  (led:w.params.followText "set-order" = true∨u.led=true) (fin:∀h',Heap.SameBut a s.heap h'→Yn P w h' a ks→R (some true) { s with heap:=h' }) :
  wpAny (model P w) A (do
    storeSet a fs u
    if(!was && u.tooFull)=true then do
      gv (relayAll u fs (SetTable.grown fs.size)).2.2
      storeSet a (relayAll u fs (SetTable.grown fs.size)).1 (relayAll u fs (SetTable.grown fs.size)).2.1
      pure (some true)
     else pure (some true)) R E s:=by
 have at1:=store_at (es':=fs) (t':=u) at0 dt
 have sb:=Heap.SameBut.update s.heap a (Obj.putSet fs u)
 refine wpAny_bind (wpAny_storeSet_of at0 dt ?_ (fits_of_scanBound few))
 split
 · have q1:=relayAll_perm u fs (SetTable.grown fs.size)
   have q2:=relayAll_fits u fs (SetTable.grown fs.size)
   have q3:=relayAll_ris u fs (SetTable.grown fs.size)
   have q4:=relayAll_led u fs (SetTable.grown fs.size)
   generalize relayAll u fs (SetTable.grown fs.size)=W at q1 q2 q3 q4 ⊢
   obtain⟨gs,u2,gave⟩:=W
   have sz:gs.size=fs.size:=by have:=q1.length_eq;rw[Array.length_toList,Array.length_toList] at this;exact this
   refine wpAny_bind (free _ _ _ (wpAny_bind (wpAny_storeSet_of at1 rfl ?_ (fits_of_scanBound (by rw[sz];exact few)))))
   have at2:=store_at (es':=gs) (t':=u2) at1 rfl
   refine wpAny_pure (fin _ (sb.trans (Heap.SameBut.update _ a _)) ⟨_,gs,_,u2,at2,ex,rfl,fun e he=>ge e (q1.mem_iff.mp he),(q1.map _).trans pm,nd,by rw[sz];exact few,q2,q3,led.imp id fun z=>by rw[q4];exact z⟩)
 · exact wpAny_pure (fin _ sb ⟨_,fs,_,u,at1,ex,rfl,ge,pm,nd,few,ft,ri,led⟩)
theorem ZnO {k:Key}{v:Value}{Q:Bool→Shared→Prop}(R:Yn P w s.heap a ks)(room:ks.length+1<scanBound)(hv:RelV (kV k) v)
  (hQ:∀h' b,Heap.SameBut a s.heap h'→Yn P w h' a (addK ks k)→Q b { s with heap:=h' }):wpAny (model P w) A (setAddHashed a v ((mixKind P w).hash k)) Q E s:=by
 have keep:=R
 obtain⟨o,es,ep,t,at0,ex,dt,ge,pm,nd,few,ft,ri,led⟩:=R
 have isk:=kV_is (P:=P) (w:=w) hv
 have scn:=key_scan hv
 have els:=ZiV ge
 unfold setAddHashed setAddHashedIn
 refine wpAny_holding (wpAny_bind (wpAny_setState_of at0 dt ft ?_))
 dsimp only
 rw[byScan_of scn few els,if_pos rfl]
 unfold setAddByScan
 refine wpAny_bind (wpAny_bind (wpAny_rule (wpAny_bind (wpAny_setScan_of isk at0 dt ft els ?_))))
 cases fi:List.findIdx? (fun e=>(mixKind P w).is k e.2) es.toList with
 | some j=>
   obtain⟨hj,pj,_⟩:=List.findIdx?_eq_some_iff_getElem.mp fi
   have mk:k∈ks:=pm.mem_iff.mp (List.mem_map.mpr ⟨es.toList[j],List.getElem_mem hj,(Ze4 (ge _ (List.getElem_mem hj)) k).mp pj⟩)
   have:=hQ s.heap false (Heap.SameBut.refl a s.heap) (by unfold addK;rw[if_pos (Zdf.mpr mk)];exact keep)
   exact wpAny_pure (wpAny_pure this)
 | none=>
   have mk:k∉ks:=fun z=>by
    obtain⟨e,he,q⟩:=List.mem_map.mp (pm.mem_iff.mpr z)
    have c:=List.findIdx?_eq_none_iff.mp fi e he
    rw[(Ze4 (ge e he) k).mpr q] at c
    cases c
   have free:∀(b:Bool) (s₁:Shared) (Z:Unit→Shared→Prop),Z () s₁→wpAny (model P w) A (match b with | true=>rule "set.scan.the-table-gave-way" | false=>pure ()) Z E s₁:=fun b s₁ Z z=>by
    cases b with
    | true=>exact wpAny_rule z
    | false=>exact wpAny_pure z
   have q1:=layNew_perm t es ((mixKind P w).hash k) v
   have q2:=layNew_fits t es ((mixKind P w).hash k) v
   have q3:=layNew_ris t es ((mixKind P w).hash k) v ri
   have q4:=layNew_led t es ((mixKind P w).hash k) v
   dsimp only
   generalize layNew t es ((mixKind P w).hash k) v=W at q1 q2 q3 q4 ⊢
   obtain⟨fs,u,was,gave⟩:=W
   dsimp only at q1 q2 q3 q4 ⊢
   rw[Array.toList_push] at q1
   have ge1:∀e∈fs.toList,EntK P w e:=fun e he=>by
    rcases List.mem_append.mp (q1.mem_iff.mp he) with z | z
    · exact ge e z
    · rw[List.mem_singleton.mp z];exact Zk2 hv
   have pm1:(V4 fs).Perm (ks++[k]):=by
    have p:=q1.map fun e:Int×Value=>kOf e.2
    rw[List.map_append,List.map_singleton] at p
    refine p.trans ?_
    show(V4 es++[kOf v]).Perm _
    rw[Zhp hv]
    exact pm.append_right _
   have nd1:(ks++[k]).Nodup:=List.nodup_append.mpr ⟨nd,by simp,fun x hx y hy z=>mk (by rw[List.mem_singleton.mp hy] at z;rw[← z];exact hx)⟩
   have few1:fs.size<scanBound:=by
    have:=pm1.length_eq
    unfold V4 at this
    rw[List.length_map,Array.length_toList,List.length_append] at this
    simp only[List.length_singleton] at this
    omega
   have led1:w.params.followText "set-order" = true∨u.led=true:=led.imp id fun z=>by rw[q4];exact z
   have fin:∀h',Heap.SameBut a s.heap h'→Yn P w h' a (ks++[k])→Q true { s with heap:=h' }:=fun h' sb r=>hQ h' true sb (by unfold addK;rw[if_neg fun z=>mk (Zdf.mp z)];exact r)
   refine wpAny_bind (free _ _ _ ?_)
   split
   · refine wpAny_bind ?_
     rw[hashByValue_scannable 8 scn]
     refine wpAny_pure (ZbQ (fun b s₁ Z z=>?_) at0 ex dt ge1 pm1 nd1 few1 ?_ ?_ ?_ fun h' sb r=>wpAny_pure (fin h' sb r))
     · cases b with
       | true=>exact wpAny_rule z
       | false=>exact wpAny_pure z
     · first | exact q2 | (split <;> first | exact q2 | exact SetTable.fits_plain_off q2)
     · first | exact q3 | (split <;> exact q3)
     · first | exact led1 | (split <;> exact led1)
   · refine wpAny_bind (wpAny_pure ?_)
     simp only[↓reduceIte]
     refine ZbQ (fun b s₁ Z z=>?_) at0 ex dt ge1 pm1 nd1 few1 q2 q3 led1 fun h' sb r=>wpAny_pure (fin h' sb r)
     cases b with
     | true=>exact wpAny_rule z
     | false=>exact wpAny_pure z
end
end Sw
namespace Sw
open PySem PySem.Spec PyProof.Rows L2
section
variable {P:Program}{w:World}{A:Around}{E:Value→Shared→Prop}{s:Shared}
theorem ZiC {ks:List Key}{k:Key}:(addK ks k).length≤ks.length+1:=by unfold addK;split <;> simp
theorem Zdd:∀(ns ks:List Key),(ns.foldl addK ks).length≤ks.length+ns.length
 | [],ks=>by simp
 | k :: r,ks=>by have:=Zdd r (addK ks k);have:=ZiC (ks:=ks) (k:=k);rw[List.foldl_cons,List.length_cons];omega
theorem Zde {h:Heap}{a:Addr}(at0:h.get? a=some { cls:=.type "set",dict:=none,data:=.set #[] 0 (.fresh 0 0 (!w.params.followText "set-order")) }):Yn P w h a []:=by
 refine⟨_,#[],0,_,at0,⟨rfl,rfl,rfl⟩,rfl,fun e he=>(by cases he),.nil,.nil,by decide,rfl,.nil,?_⟩
 cases hz:w.params.followText "set-order" with
 | true=>exact .inl rfl
 | false=>exact .inr (by rw[hz] at *;rfl)
theorem ZbP {I S:Addr}{fp wr:List Addr}{G:Array GenState→Array GenState→Prop}{n:Nat}{Pv:Nat→Value→Prop}{St:Nat→Shared→Prop}{R:Result→Shared→Prop}(W:WalksS P w A.in1 I fp wr G n Pv St)(off:S∉fp)(ks:List Key)
  (hn:n=ks.length) (few:ks.length+1<scanBound) (at_:∀i v,Pv i v→∃k,ks[i]?=some k∧RelV (kV k) v):∀(left i:Nat)(s:Shared),n - i=left→i≤n→St i s→Yn P w s.heap S ((ks.take i).foldl addK [])→
   (∀s',Moved (S :: wr) G s s'→Yn P w s'.heap S (Yp ks)→R (.ok (.ret .none)) s')→codeAny (model P w) A (.builtin "set.update.loop" ⟨[.ref S,.ref I],[]⟩) R s:=by
 have offw:S∉wr:=fun z=>off (W.sub _ z)
 have more:∀b∈wr,b∈S :: wr:=fun b hb=>List.mem_cons_of_mem _ hb
 intro left
 induction left with
 | zero=>
   intro i s hl hi st hS fin
   obtain rfl:i=n:=by omega
   refine codeAny_builtin F.entry_set_update_loop ?_
   rw[Around.under_plainId F.plain_set_update_loop _]
   show wpAny _ A.in1 (pyNext (.ref I) >>= _) _ _ s
   refine wpAny_bind (W.done s _ _ st fun s' mv=>?_)
   have e:ks.take i=ks:=List.take_of_length_le (by omega)
   rw[e] at hS
   show wpAny _ A.in1 (ret Value.none) _ _ s'
   exact wpAny_pure (fin s' (mv.mono more) (hS.at fun o z=>mv.heap S o offw z))
 | succ left ih=>
   intro i s hl hi st hS fin
   refine codeAny_builtin F.entry_set_update_loop ?_
   rw[Around.under_plainId F.plain_set_update_loop _]
   show wpAny _ A.in1 (pyNext (.ref I) >>= _) _ _ s
   refine wpAny_bind (W.item i s _ _ (by omega) st fun v s' hv st' mv=>?_)
   obtain⟨k,hk,rv⟩:=at_ i v hv
   have hS':=hS.at (h':=s'.heap) fun o z=>mv.heap S o offw z
   show wpAny _ A.in1 (holding [v] (setAdd S v) >>= _) _ _ s'
   refine wpAny_bind (wpAny_holding ?_)
   unfold setAdd
   refine wpAny_holding (wpAny_bind ((mixKind P w).pyHash (kV_is rv) ?_))
   have l1:=Zdd (ks.take i) []
   rw[List.length_take] at l1
   simp only[List.length_nil] at l1
   refine ZnO (s:={ s' with toks:=s'.toks+1 }) hS' (by omega) rv fun h' b sb hS2=>?_
   have e:addK ((ks.take i).foldl addK []) k=(ks.take (i+1)).foldl addK []:=by rw[List.take_add_one,hk,Option.toList_some,List.foldl_append];rfl
   rw[e] at hS2
   refine wpAny_pure ⟨plainId_quiet F.plain_set_update_loop _,ih (i+1) _ (by omega) (by omega) (W.frame _ s' _ _ st' (Nat.le_succ _) fun b hb o z=>?_) hS2 fun s2 mv2 hS3=>fin s2 (Moved.trans W.gtrans ((mv.mono more).then_heap (Nat.le_succ _) fun b o hb z=>?_) mv2) hS3⟩
   · rw[sb.2 b (fun q=>off (by rw[← q];exact hb))];exact z
   · rw[sb.2 b (fun q=>hb (by rw[q];exact List.mem_cons_self))];exact z
end
end Sw
namespace Sw
open PySem PySem.Spec PyProof.Rows L2
section
variable {P:Program}{w:World}{A:Around}{E:Value→Shared→Prop}{s:Shared}
abbrev Xd (w:World):Obj:={ cls:=.type "set",dict:=none,data:=.set #[] 0 (.fresh 0 0 (!w.params.followText "set-order")) }
abbrev ZfH (P:Program)(w:World)(s:Shared)(ks:List Key)(Q:Value→Shared→Prop):Prop:=∀(h':Heap)(tk:Nat),Yn P w h' s.heap.objs.size (Yp ks)→(∀b o,s.heap.get? b=some o→h'.get? b=some o)→Q (.ref s.heap.objs.size) { s with heap:=h',toks:=tk }
def ZcL (items:Array Value)(ks:List Key):Prop:=items.size=ks.length∧∀(i:Nat)(v:Value),items[i]?=some v→∃k,ks[i]?=some k∧RelV (kV k) v
theorem Zgt {l:Addr}{items:Array Value}{ks:List Key}{Q:Value→Shared→Prop}(hh:A.handled=none)(hl:s.heap.IsList l items)(ka:ZcL items ks)(few:ks.length+1<scanBound)(fin:ZfH P w s ks Q):wpAny (model P w) A (call (.type "set") [.ref l]) Q E s:=by
 obtain⟨c,tl,mro⟩:=F.called_set.mro
 have md:=F.called_set.made
 have sb:=F.called_set.sub
 refine wpAny_call (codeAny_of_tree ?_)
 show wpAny _ _ (callAny (.type "set") _) _ _ _
 refine wpAny_pure ⟨Code.quiet_builtin _ (by decide +kernel),codeAny_builtin F.entry_type_call ?_⟩
 rw[Around.under_plain (weight_type_call_type "set" [.ref l] []) rfl]
 have k1:=F.called_set.notType
 have k2:=F.called_set.canCreate
 have k3:=F.typeCall_set_1 (.ref l)
 repeat (any_goals first | assumption | wp_step)
 refine codeAny_mono (code_set_led1 (.ref l) (E:=E) (Q₁:=fun z s₁=>z=.ref s.heap.objs.size∧s₁={ s with heap:=s.heap.push (Xd w) }) ⟨rfl,rfl⟩) fun r s₁ hr=>?_
 rcases r with e | (u | _ | _ | _) <;> try exact hr
 all_goals try exact hr.elim
 obtain⟨rfl,rfl⟩:=hr
 have at1:(s.heap.push (Xd w)).get? s.heap.objs.size=some (Xd w):=Heap.get?_push_size _ rfl
 have ty:Shared.TypeIs { s with heap:=s.heap.push (Xd w) } (.ref s.heap.objs.size) "set" :=⟨_,at1,rfl⟩
 have k4:=F.called_set.init.lookup
 have k5:=F.called_set.init.bind (.ref s.heap.objs.size)
 repeat (any_goals first | assumption | wp_step)
 refine codeAny_mono (codeAny_call_builtin (R:=wants (fun r s₂=>r=.none∧∃h' tk,s₂={ s with heap:=h',toks:=tk }∧Yn P w h' s.heap.objs.size (Yp ks)∧∀b o,s.heap.get? b=some o→h'.get? b=some o) E) F.called_set.init.plain F.entry_set_init (check_set_init_1 ty ?_)) fun r₂ s₂ hr₂=>?_
 · obtain⟨ol,at2,hc,nl,hd⟩:=id hl
   obtain⟨oc,odi,oda,osl⟩:=ol
   simp only at hc hd
   subst hc hd
   have at3:(s.heap.push (Xd w)).get? l=some { cls:=.type "list",dict:=odi,data:=.seq items nl,slots:=osl }:=Heap.get?_push_of_some _ at2
   have f1:=F.sub_list_set
   have f2:=F.sub_list_frozenset
   have f3:(Value.type "list" == Value.type "dict")=false:=by decide
   have hl1:=hl.push (Xd w)
   unfold Builtin.«set.__init__» noKeywords Builtin.Frozenset.updateFrom
   generalize ePI:pyIter=PI
   wp_walk
   subst ePI
   refine wpAny_pyIter_list hl1 (wpAny_bind (wpAny_runValue ?_))
   have lo:l<s.heap.objs.size:=Heap.lt_size at2
   have sz:(s.heap.push (Xd w)).objs.size=s.heap.objs.size+1:=Heap.size_push ..
   have h3:A.in1.in1.in1.handled=none:=by simp[hh]
   refine ZbP ((Walks.list h3 _ l (by rw[sz];exact Nat.ne_of_lt (Nat.lt_succ_of_lt lo)) items).toS) (by rw[sz];simp only[List.mem_cons,List.not_mem_nil,or_false,not_or];exact⟨Nat.ne_of_lt (Nat.lt_succ_self _),Nat.ne_of_gt lo⟩) ks ka.1 few ka.2 (items.size - 0) 0 _ rfl (Nat.zero_le _) ⟨⟨_,Heap.get?_push_size _ rfl,rfl,rfl⟩,hl1.push _⟩ (Zde (Heap.get?_push_of_some _ at1)) fun s' mv hS=>?_
   obtain⟨h',g2,d',tk,os'⟩:=s'
   obtain rfl:g2=s.gens:=mv.gens
   obtain rfl:d'=s.drawn:=mv.drawn
   obtain rfl:os'=s.os:=mv.os
   show wpAny _ _ _ _ _ _
   refine wpAny_pure ?_
   show wpAny _ _ (ret Value.none) _ _ _
   refine wpAny_pure ⟨rfl,h',tk,rfl,hS,fun b o e=>?_⟩
   have hb:=Heap.lt_size e
   exact mv.heap b o (by rw[sz];simp only[List.mem_cons,List.not_mem_nil,or_false,not_or];exact⟨Nat.ne_of_lt hb,Nat.ne_of_lt (Nat.lt_succ_of_lt hb)⟩) (Heap.get?_push_of_some _ (Heap.get?_push_of_some _ e))
 · rcases r₂ with e | (u | _ | _ | _) <;> try exact hr₂
   all_goals try exact hr₂.elim
   obtain⟨rfl,h',tk,rfl,hS,hk⟩:=hr₂
   repeat (any_goals first | assumption | wp_step)
   exact fin _ _ hS hk
theorem ZeK {l:Addr}{items:Array Value}{ks:List Key}{Q:Value→Shared→Prop}(hh:A.handled=none)(hl:s.heap.IsTuple l items)(ka:ZcL items ks)(few:ks.length+1<scanBound)(fin:ZfH P w s ks Q):wpAny (model P w) A (call (.type "set") [.ref l]) Q E s:=by
 obtain⟨c,tl,mro⟩:=F.called_set.mro
 have md:=F.called_set.made
 have sb:=F.called_set.sub
 refine wpAny_call (codeAny_of_tree ?_)
 show wpAny _ _ (callAny (.type "set") _) _ _ _
 refine wpAny_pure ⟨Code.quiet_builtin _ (by decide +kernel),codeAny_builtin F.entry_type_call ?_⟩
 rw[Around.under_plain (weight_type_call_type "set" [.ref l] []) rfl]
 have k1:=F.called_set.notType
 have k2:=F.called_set.canCreate
 have k3:=F.typeCall_set_1 (.ref l)
 repeat (any_goals first | assumption | wp_step)
 refine codeAny_mono (code_set_led1 (.ref l) (E:=E) (Q₁:=fun z s₁=>z=.ref s.heap.objs.size∧s₁={ s with heap:=s.heap.push (Xd w) }) ⟨rfl,rfl⟩) fun r s₁ hr=>?_
 rcases r with e | (u | _ | _ | _) <;> try exact hr
 all_goals try exact hr.elim
 obtain⟨rfl,rfl⟩:=hr
 have at1:(s.heap.push (Xd w)).get? s.heap.objs.size=some (Xd w):=Heap.get?_push_size _ rfl
 have ty:Shared.TypeIs { s with heap:=s.heap.push (Xd w) } (.ref s.heap.objs.size) "set" :=⟨_,at1,rfl⟩
 have k4:=F.called_set.init.lookup
 have k5:=F.called_set.init.bind (.ref s.heap.objs.size)
 repeat (any_goals first | assumption | wp_step)
 refine codeAny_mono (codeAny_call_builtin (R:=wants (fun r s₂=>r=.none∧∃h' tk,s₂={ s with heap:=h',toks:=tk }∧Yn P w h' s.heap.objs.size (Yp ks)∧∀b o,s.heap.get? b=some o→h'.get? b=some o) E) F.called_set.init.plain F.entry_set_init (check_set_init_1 ty ?_)) fun r₂ s₂ hr₂=>?_
 · obtain⟨ol,at2,hc,nl,hd⟩:=id hl
   obtain⟨oc,odi,oda,osl⟩:=ol
   simp only at hc hd
   subst hc hd
   have at3:(s.heap.push (Xd w)).get? l=some { cls:=.type "tuple",dict:=odi,data:=.seq items nl,slots:=osl }:=Heap.get?_push_of_some _ at2
   have f1:=F.sub_tuple_set
   have f2:=F.sub_tuple_frozenset
   have f3:(Value.type "tuple" == Value.type "dict")=false:=by decide
   have hl1:=hl.push (Xd w)
   unfold Builtin.«set.__init__» noKeywords Builtin.Frozenset.updateFrom
   generalize ePI:pyIter=PI
   wp_walk
   subst ePI
   refine wpAny_pyIter_tuple hl1 (wpAny_bind (wpAny_runValue ?_))
   have lo:l<s.heap.objs.size:=Heap.lt_size at2
   have sz:(s.heap.push (Xd w)).objs.size=s.heap.objs.size+1:=Heap.size_push ..
   have h3:A.in1.in1.in1.handled=none:=by simp[hh]
   refine ZbP ((Walks.tuple h3 _ l (by rw[sz];exact Nat.ne_of_lt (Nat.lt_succ_of_lt lo)) items).toS) (by rw[sz];simp only[List.mem_cons,List.not_mem_nil,or_false,not_or];exact⟨Nat.ne_of_lt (Nat.lt_succ_self _),Nat.ne_of_gt lo⟩) ks ka.1 few ka.2 (items.size - 0) 0 _ rfl (Nat.zero_le _) ⟨⟨_,Heap.get?_push_size _ rfl,rfl,rfl⟩,hl1.push _⟩ (Zde (Heap.get?_push_of_some _ at1)) fun s' mv hS=>?_
   obtain⟨h',g2,d',tk,os'⟩:=s'
   obtain rfl:g2=s.gens:=mv.gens
   obtain rfl:d'=s.drawn:=mv.drawn
   obtain rfl:os'=s.os:=mv.os
   show wpAny _ _ _ _ _ _
   refine wpAny_pure ?_
   show wpAny _ _ (ret Value.none) _ _ _
   refine wpAny_pure ⟨rfl,h',tk,rfl,hS,fun b o e=>?_⟩
   have hb:=Heap.lt_size e
   exact mv.heap b o (by rw[sz];simp only[List.mem_cons,List.not_mem_nil,or_false,not_or];exact⟨Nat.ne_of_lt hb,Nat.ne_of_lt (Nat.lt_succ_of_lt hb)⟩) (Heap.get?_push_of_some _ (Heap.get?_push_of_some _ e))
 · rcases r₂ with e | (u | _ | _ | _) <;> try exact hr₂
   all_goals try exact hr₂.elim
   obtain⟨rfl,h',tk,rfl,hS,hk⟩:=hr₂
   repeat (any_goals first | assumption | wp_step)
   exact fin _ _ hS hk
end
end Sw
namespace Sw
open PySem PySem.Spec PyProof.Rows L2
def ZjY (i j:Str):Bool:=if i.cps.size=1 then decide (i.cps.getD 0 0∈j.cps.toList) else !(Builtin.Str.occurrences j i 0 j.length 1).isEmpty
def YZ (i j:Str):Bool:=decide (i.cps.toList<j.cps.toList)
def peel (S:Za):D→Option (List D)
 | .lst ds=>some ds
 | .obj a=>match S a with | some (.lst ds)=>some ds | _=>none
 | _=>none
def seqD (S:Za):D→Option (List D)
 | .tup ds=>some ds
 | d=>peel S d
def dicD (S:Za):D→Option (List (Key×D))
 | .dic ks ds=>some (ks.zip ds)
 | .obj a=>match S a with | some (.dic kvs)=>some kvs | _=>none
 | _=>none
def keyD:D→Option Key
 | .int i=>some (.inl i)
 | .str x=>some (.inr x)
 | _=>none
def kD:Key→D
 | .inl i=>.int i
 | .inr x=>.str x
def Xv {α:Type}(kvs:List (Key×α))(k:Key):Option α:=(kvs.find? fun kv=>decide (kv.1=k)).map (·.2)
def Xe {α:Type}(kvs:List (Key×α))(k:Key)(v:α):List (Key×α):=
 if(kvs.any fun kv=>decide (kv.1=k))=true then kvs.map (fun kv=>if kv.1=k then(kv.1,v) else kv) else kvs++[(k,v)]
mutual
def D.res (S:Za):D→D
 | .obj a=>match S a with | some (.lst ds)=>.lst ds | _=>.obj a
 | .tup ds=>.tup (D.ress S ds)
 | .lst ds=>.lst (D.ress S ds)
 | .non=>.non
 | .bl b=>.bl b
 | .int i=>.int i
 | .str x=>.str x
 | .dic ks ds=>.dic ks ds
 | .scr ds=>.scr ds
def D.ress (S:Za):List D→List D
 | []=>[]
 | d :: r=>D.res S d :: D.ress S r
end
mutual
theorem Zju {S:Za}:∀d:D,d.pure=true→d.res S=d
 | .non,_=>rfl
 | .bl _,_=>rfl
 | .int _,_=>rfl
 | .str _,_=>rfl
 | .tup ds,h=>by rw[D.pure] at h;rw[D.res,Xm ds h]
 | .lst ds,h=>by rw[D.pure] at h;rw[D.res,Xm ds h]
 | .dic _ _,_=>rfl
 | .scr _,_=>rfl
 | .obj _,h=>by rw[D.pure] at h;cases h
theorem Xm {S:Za}:∀ds:List D,D.pureAll ds=true→D.ress S ds=ds
 | [],_=>rfl
 | d :: r,h=>by rw[D.pureAll,Bool.and_eq_true] at h;rw[D.ress,Zju d h.1,Xm r h.2]
end
def Zl (S:Za):D→Option PyData
 | .obj a=>match S a with | some (.lst ds)=>if D.pureAll ds=true then some (.list (D.toPs ds)) else none | _=>none
 | .tup ds=>if D.pureAll (D.ress S ds)=true then some (.tuple (D.toPs (D.ress S ds))) else none
 | .lst ds=>if D.pureAll (D.ress S ds)=true then some (.list (D.toPs (D.ress S ds))) else none
 | d=>if D.pure d=true then some (D.toP d) else none
theorem We {S:Za}{d:D}(h:d.pure=true):Zl S d=some d.toP:=by
 cases d with
 | tup ds=>rw[D.pure] at h;unfold Zl;dsimp only;rw[Xm ds h,if_pos h,D.toP]
 | lst ds=>rw[D.pure] at h;unfold Zl;dsimp only;rw[Xm ds h,if_pos h,D.toP]
 | obj a=>rw[D.pure] at h;cases h
 | _=>unfold Zl;dsimp only;rw[if_pos h]
def optD (o:Option D)(Q:D→Prop):Prop:=match o with | some d=>Q d | none=>False
def ixD {α:Type}(xs:List α)(i:Int):Option α:=if 0≤i then xs[i.toNat]? else if 0≤i+xs.length then xs[(i+xs.length).toNat]? else none
def cutD {α:Type}(xs:List α)(lo hi:Option Int):List α:=(xs.drop (HT.sIx xs.length 0 lo)).take (HT.sIx xs.length xs.length hi - HT.sIx xs.length 0 lo)
def addD (S:Za)(x y:D):Option D:=
 match x,y with
 | .int i,.int j=>some (.int (i+j))
 | .str i,.str j=>if i.length+j.length≤sizeLine then some (.str (i++j)) else none
 | .tup a,.tup b=>if a.length+b.length≤sizeLine then some (.tup (a++b)) else none
 | x,y=>match peel S x,peel S y with
   | some a,some b=>if a.length+b.length≤sizeLine then some (.lst (a++b)) else none
   | _,_=>none
def mulD (S:Za)(x y:D):Option D:=
 match x,y with
 | .int i,.int j=>if i.natAbs.log2+j.natAbs.log2<1000000 then some (.int (i * j)) else none
 | x,.int k=>match peel S x with
   | some a=>if 0≤k∧k<2 ^ 62∧a.length * k.toNat≤sizeLine then some (.lst (List.replicate k.toNat a).flatten) else none
   | none=>none
 | _,_=>none
def WS (i j:Int):Bool:=decide (0≤j) && decide (j≤1000000) && decide (i.natAbs<2 ^ 64)
def binD (o:Operator)(S:Za)(x y:D):Option D:=
 match o with
 | .Add=>addD S x y
 | .Mult=>mulD S x y
 | o=>match x,y with
   | .int i,.int j=>match o with
     | .Sub=>some (.int (i - j))
     | .FloorDiv=>if 0<j∧j.natAbs.log2<9000 then some (.int (i / j)) else none
     | .Mod=>if 0<j then some (.int (i % j)) else none
     | .Pow=>if WS i j=true then some (.int (i ^ j.toNat)) else none
     | .LShift=>if WS i j=true then some (.int (i * 2 ^ j.toNat)) else none
     | .BitAnd=>some (.int (Builtin.bitAnd i j))
     | .BitOr=>some (.int (Builtin.bitOr i j))
     | _=>none
   | _,_=>none
mutual
def D.whole:D→Bool
 | .tup ds=>D.wholes ds
 | .lst ds=>D.wholes ds
 | .dic _ ds=>D.wholes ds
 | .scr _=>false
 | .obj _=>false
 | _=>true
def D.wholes:List D→Bool
 | []=>true
 | d :: r=>D.whole d && D.wholes r
end
def keyQ:Key→PyData
 | .inl i=>.int i
 | .inr x=>.str x
mutual
def D.toQ:D→PyData
 | .non=>.none
 | .bl b=>.bool b
 | .int i=>.int i
 | .str x=>.str x
 | .tup ds=>.tuple (D.toQs ds)
 | .lst ds=>.list (D.toQs ds)
 | .dic ks ds=>.dict ((ks.map keyQ).zip (D.toQs ds))
 | _=>.none
def D.toQs:List D→List PyData
 | []=>[]
 | d :: r=>D.toQ d :: D.toQs r
end
def eqD (S:Za)(x y:D):Option Bool:=
 match Zl S x,Zl S y with
 | some p,some q=>if min p.depth q.depth≤64 then some (PyData.eqv p q) else none
 | some p,none=>if y.whole=true∧min p.depth y.toQ.depth≤64 then some (PyData.eqv p y.toQ) else none
 | none,some q=>if x.whole=true∧min x.toQ.depth q.depth≤64 then some (PyData.eqv x.toQ q) else none
 | none,none=>none
def inD (S:Za)(x y:D):Option Bool:=
 match y with
 | .str j=>match x with | .str i=>some (ZjY i j) | _=>none
 | y=>match dicD S y with
   | some kvs=>match keyD x with | some k=>some (Xv kvs k).isSome | none=>none
   | none=>match seqD S y,Zl S x with
     | some ds,some p=>if D.pureAll ds=true∧min (PyData.depthAll (D.toPs ds)) p.depth≤64 then some ((D.toPs ds).any fun z=>PyData.eqv z p) else none
     | some ds,none=>if x.whole=true∧D.pureAll ds=true∧min (PyData.depthAll (D.toPs ds)) x.toQ.depth≤64 then some ((D.toPs ds).any fun z=>PyData.eqv z x.toQ) else none
     | _,_=>none
def cmpB (o:CmpOp)(S:Za)(x y:D):Option Bool:=
 match o with
 | .Eq=>eqD S x y
 | .NotEq=>(eqD S x y).map (!·)
 | .In=>inD S x y
 | .NotIn=>(inD S x y).map (!·)
 | o=>match x,y with
   | .int i,.int j=>match o with
     | .Lt=>some (decide (i<j))
     | .LtE=>some (decide (i≤j))
     | .Gt=>some (decide (j<i))
     | .GtE=>some (decide (j≤i))
     | _=>none
   | .str i,.str j=>match o with
     | .Lt=>some (YZ i j)
     | .LtE=>some (!YZ j i)
     | .Gt=>some (YZ j i)
     | .GtE=>some (!YZ i j)
     | _=>none
   | _,_=>none
def cmpD (o:CmpOp)(S:Za)(x y:D):Option D:=(cmpB o S x y).map .bl
inductive Ty where
 | int | bool | str | tuple | list | dict
 deriving DecidableEq
def Ty.nm:Ty→String
 | .int=> "int" | .bool=> "bool" | .str=> "str" | .tuple=> "tuple" | .list=> "list" | .dict=> "dict"
def isaD (t:Ty)(S:Za):D→Option Bool
 | .non=>some false
 | .bl _=>some (t == .bool || t == .int)
 | .int _=>some (t == .int)
 | .str _=>some (t == .str)
 | .tup _=>some (t == .tuple)
 | .lst _=>some (t == .list)
 | .scr _=>none
 | .dic _ _=>some (t == .dict)
 | .obj a=>match S a with | some (.lst _)=>some (t == .list) | some (.dic _)=>some (t == .dict) | _=>none
def truD (S:Za):D→Option Bool
 | .non=>some false
 | .bl b=>some b
 | .int i=>some (i != 0)
 | .str x=>if x.length≤sizeLine then some ((x.length:Int) != 0) else none
 | .tup ds=>some (!ds.isEmpty)
 | .lst ds=>some (!ds.isEmpty)
 | .obj a=>match S a with | some (.lst ds)=>some (!ds.isEmpty) | some (.dic kvs)=>some (!kvs.isEmpty) | _=>none
 | _=>none
def ixOf (S:Za)(x y:D):Option D:=
 match dicD S x with
 | some kvs=>match keyD y with | some k=>Xv kvs k | none=>none
 | none=>match y with
   | .int i=>match x with
     | .str z=>if z.length≤sizeLine then(ixD z.cps.toList i).map fun c=>.str ⟨#[c]⟩ else none
     | x=>match seqD S x with | some ds=>ixD ds i | none=>none
   | _=>none
def revD (S:Za):D→Option D
 | .tup ds=>some (.tup ds.reverse)
 | x=>match peel S x with | some ds=>some (.lst ds.reverse) | none=>none
def YW (ts:List Ty)(S:Za)(d:D):Option Bool:=
 match isaD .int S d with
 | some _=>some (ts.any fun t=>isaD t S d == some true)
 | none=>none
def slOf (S:Za)(x:D)(lo hi:Option Int):Option D:=
 match x with
 | .str z=>if z.length≤sizeLine then some (.str ⟨(cutD z.cps.toList lo hi).toArray⟩) else none
 | .tup ds=>some (.tup (cutD ds lo hi))
 | .scr ds=>some (.lst (cutD ds lo hi))
 | x=>match peel S x with | some ds=>some (.lst (cutD ds lo hi)) | none=>none
inductive Bi where
 | len | abs | tuple | list | min2 | max2 | int | sum | all | any | lrange1 | lrange2 | sorted | repr | str | dict | min1 | max1 | suml
 deriving DecidableEq
def Ww:List D→Option (List Int)
 | []=>some []
 | .int i :: r=>(Ww r).map (i :: ·)
 | _=>none
def blsD:List D→Option (List Bool)
 | []=>some []
 | .bl b :: r=>(blsD r).map (b :: ·)
 | _=>none
def Yi:List D→Option (List Str)
 | []=>some []
 | .str b :: r=>(Yi r).map (b :: ·)
 | _=>none
def ZN (a b:Int):List D:=(List.range (b - a).toNat).map fun i=>.int (a+(i:Nat))
def rgOk (a b:Int):Bool:=decide (-(2 ^ 62)≤a) && decide (a<2 ^ 62) && decide (-(2 ^ 62)≤b) && decide (b<2 ^ 62) && decide ((b - a).toNat≤2 ^ 24)
def lenF (S:Za):List D→Option D
 | [.str x]=>if x.length≤sizeLine then some (.int x.length) else none
 | [.scr xs]=>some (.int xs.length)
 | [d]=>match seqD S d with
   | some xs=>some (.int xs.length)
   | none=>(dicD S d).map fun kvs=>.int kvs.length
 | _=>none
def absF:List D→Option D
 | [.int i]=>some (.int (if i<0 then -i else i))
 | _=>none
def tupF (S:Za):List D→Option D
 | [d]=>(seqD S d).map .tup
 | _=>none
def lstF (S:Za):List D→Option D
 | [d]=>(seqD S d).map .lst
 | _=>none
def minF:List D→Option D
 | [.int i,.int j]=>some (.int (if j<i then j else i))
 | _=>none
def maxF:List D→Option D
 | [.int i,.int j]=>some (.int (if j > i then j else i))
 | _=>none
def intF:List D→Option D
 | [.int i]=>some (.int i)
 | [.bl b]=>some (.int (if b then 1 else 0))
 | _=>none
def sumF (S:Za):List D→Option D
 | [d]=>match peel S d with
   | some xs=>(Ww xs).map fun ns=>.int ns.sum
   | none=>none
 | _=>none
def Zcy:List D→Option (List D)
 | []=>some []
 | .lst ds :: r=>(Zcy r).map (ds++·)
 | _=>none
def Ul (S:Za):List D→Option D
 | [d,.lst []]=>match peel S d with
   | some (x :: xs)=>match Zcy (x :: xs) with
     | some ds=>if ds.length≤sizeLine then some (.lst ds) else none
     | none=>none
   | _=>none
 | _=>none
def allF (S:Za):List D→Option D
 | [d]=>match peel S d with
   | some xs=>(blsD xs).map fun bs=>.bl (bs.all id)
   | none=>none
 | _=>none
def anyF (S:Za):List D→Option D
 | [d]=>match peel S d with
   | some xs=>(blsD xs).map fun bs=>.bl (bs.any id)
   | none=>none
 | _=>none
def W3:List D→Option D
 | [.int b]=>if rgOk 0 b=true then some (.lst (ZN 0 b)) else none
 | _=>none
def V7:List D→Option D
 | [.int a,.int b]=>if rgOk a b=true then some (.lst (ZN a b)) else none
 | _=>none
def Wf (S:Za):List D→Option D
 | [d]=>match Zl S d with
   | some p=>if p.showable=true∧p.hasDict=false∧p.depth≤64∧p.shown.length+64≤sizeLine then some (.str p.shown) else none
   | none=>if d.whole=true∧d.toQ.showable=true∧d.toQ.depth≤64∧d.toQ.shown.length+64≤sizeLine then some (.str d.toQ.shown) else none
 | _=>none
def strF:List D→Option D
 | [.str x]=>some (.str x)
 | [.int i]=>if i.natAbs.log2<1920 then some (.str (toString i)) else none
 | _=>none
def Za5:D→Bool
 | .tup (_ :: _)=>true
 | _=>false
def ZaS:D→Bool
 | .tup _=>false
 | .non=>false
 | _=>true
def Wg (ds:List D):Bool:=D.pureAll ds && (ds.all fun x=>ds.all fun y=>PySem.W.alike x.toP y.toP) && (ds.all Za5 || ds.all ZaS) && (ds.all fun x=>decide (x.toP.depth≤20))
def Xf (ds:List D):List D:=ds.mergeSort (PySem.W.dataLe false D.toP)
def strK:Key→Option Str
 | .inr x=>some x
 | .inl _=>none
def ZcI:List Key→Option (List Str)
 | []=>some []
 | k :: r=>match strK k,ZcI r with | some x,some xs=>some (x :: xs) | _,_=>none
def Zh7 (kvs:List (Key×D)):Option D:=match ZcI (kvs.map (·.1)) with
 | some xs=>if xs.length<64 then some (.lst (Xf (xs.map .str))) else none
 | none=>none
def Yx (S:Za):List D→Option D
 | [d]=>match seqD S d with
   | some xs=>if Wg xs=true then some (.lst (Xf xs)) else none
   | none=>match dicD S d with
     | some kvs=>Zh7 kvs
     | none=>none
 | _=>none
def ZaL:List D→Option (List Key)
 | []=>some []
 | d :: r=>match keyD d,ZaL r with | some k,some ks=>some (k :: ks) | _,_=>none
def YO (S:Za)(d:D):Option D:=match seqD S d with
 | some xs=>match ZaL xs with
   | some ks=>if ks.length<4000 then some (.int (Yp ks).length) else none
   | none=>none
 | none=>none
def YQ (S:Za)(d:D):Option D:=match seqD S d with
 | some xs=>match ZaL xs with
   | some ks=>if ks.length<4000∧Wg ((Yp ks).map kD)=true then some (.lst (Xf ((Yp ks).map kD))) else none
   | none=>none
 | none=>none
def pairD:D→Option (Key×D)
 | .tup [x,y]=>match keyD x with | some k=>some (k,y) | none=>none
 | _=>none
def ZaW:List D→Option (List (Key×D))
 | []=>some []
 | d :: r=>match pairD d,ZaW r with | some p,some ps=>some (p :: ps) | _,_=>none
def Zdu (ps:List (Key×D)):List (Key×D):=ps.foldl (fun kvs p=>Xe kvs p.1 p.2) []
def X9 (S:Za):List D→Option D
 | [d]=>match dicD S d with
   | some kvs=>if kvs.length≤100000∧(kvs.map (·.1)).Nodup then some (.dic (kvs.map (·.1)) (kvs.map (·.2))) else none
   | none=>match seqD S d with
     | some xs=>match ZaW xs with
       | some ps=>some (.dic ((Zdu ps).map (·.1)) ((Zdu ps).map (·.2)))
       | none=>none
     | none=>none
 | _=>none
def Zo4:D→Bool
 | .lst _=>true
 | _=>false
def bestOf (mx:Bool)(x:D)(xs:List D):D:=if mx=true then xs.foldl (fun a b=>if PySem.W.dataLt a.toP b.toP then b else a) x else xs.foldl (fun a b=>if PySem.W.dataLt b.toP a.toP then b else a) x
def X6 (mx:Bool)(S:Za):List D→Option D
 | [d]=>match seqD S d with
   | some (x :: xs)=>if Wg (x :: xs)=true∧Zo4 (bestOf mx x xs)=false then some (bestOf mx x xs) else none
   | _=>none
 | _=>none
def biD (f:Bi)(S:Za)(ds:List D):Option D:=
 match f with
 | .len=>lenF S ds
 | .abs=>absF ds
 | .tuple=>tupF S ds
 | .list=>lstF S ds
 | .min2=>minF ds
 | .max2=>maxF ds
 | .int=>intF ds
 | .sum=>sumF S ds
 | .all=>allF S ds
 | .any=>anyF S ds
 | .lrange1=>W3 ds
 | .lrange2=>V7 ds
 | .repr=>Wf S ds
 | .str=>strF ds
 | .sorted=>Yx S ds
 | .dict=>X9 S ds
 | .min1=>X6 false S ds
 | .max1=>X6 true S ds
 | .suml=>Ul S ds
inductive Me where
 | join | sindex | split | partition
 deriving DecidableEq
def Y1:D→Bool
 | .str _=>true
 | _=>false
def joinM (S:Za)(x:D):List D→Option D
 | [d]=>match x,seqD S d with
   | .str a,some ds=>match Yi ds with
     | some ys=>if(ys.map (·.length)).sum+ys.length * a.length≤16777216 then some (.str (Txt.join a ys)) else none
     | none=>none
   | _,_=>none
 | _=>none
def WW (x:D):List D→Option D
 | [.str b]=>match x with
   | .str a=>match Builtin.Str.occurrences a b 0 a.length 1 with
     | i :: _=>some (.int (i:Nat))
     | []=>none
   | _=>none
 | _=>none
def splitM (x:D):List D→Option D
 | [.str b]=>match x with
   | .str a=>if(b.length == 0)=false∧a.length+2≤sizeLine then some (.lst ((Txt.split a b).map .str)) else none
   | _=>none
 | _=>none
def ZcD (x:D):List D→Option D
 | [.str b]=>match x with
   | .str a=>if(b.length == 0)=false∧a.length≤sizeLine then some (.tup [.str (Txt.partition a b).1,.str (Txt.partition a b).2.1,.str (Txt.partition a b).2.2]) else none
   | _=>none
 | _=>none
def meD (m:Me)(S:Za)(x:D)(ds:List D):Option D:=
 match m with
 | .join=>joinM S x ds
 | .sindex=>WW x ds
 | .split=>splitM x ds
 | .partition=>ZcD x ds
inductive Ml where
 | get1 | get2 | lindex | lcount | tindex
 deriving DecidableEq
def mlTy (m:Ml)(S:Za)(x:D):Bool:=
 match m with
 | .get1=>(dicD S x).isSome
 | .get2=>(dicD S x).isSome
 | .lindex=>(peel S x).isSome
 | .tindex=>match x with | .tup _=>true | _=>false
 | .lcount=>(peel S x).isSome
def ZaE (ps:List PyData)(p:PyData):Option Nat:=ps.findIdx? fun z=>PyData.eqv z p
def YA (S:Za)(x y:D):Option D:=match seqD S x,Zl S y with
 | some ds,some p=>if D.pureAll ds=true∧min (PyData.depthAll (D.toPs ds)) p.depth≤64 then(ZaE (D.toPs ds) p).map fun i=>.int (i:Nat) else none
 | _,_=>none
def countM (S:Za)(x y:D):Option D:=match seqD S x,Zl S y with
 | some ds,some p=>if D.pureAll ds=true∧min (PyData.depthAll (D.toPs ds)) p.depth≤64 then some (.int (((D.toPs ds).countP fun z=>PyData.eqv z p):Nat)) else none
 | _,_=>none
def getM (S:Za)(x k:D)(dflt:D):Option D:=match dicD S x,keyD k with
 | some kvs,some k=>some ((Xv kvs k).getD dflt)
 | _,_=>none
def mlD (m:Ml)(S:Za)(x:D)(ds:List D):Option D:=
 match m,ds with
 | .get1,[k]=>getM S x k .non
 | .get2,[k,d]=>getM S x k d
 | .lindex,[y]=>YA S x y
 | .tindex,[y]=>YA S x y
 | .lcount,[y]=>countM S x y
 | _,_=>none
inductive Tg where
 | nm (i:Nat) | tp (a:Tg) (r:Tg) | nil
inductive Src where
 | it | rng1 | rng2 | enum | zip | keys
inductive Mu where
 | append | extend | reverse | clear | pop | popAt
 deriving DecidableEq
mutual
inductive M where
 | v (i:Nat)
 | k (d:D)
 | g (x:Str)
 | bin (o:Operator) (a b:M)
 | neg (a:M)
 | cmp (o:CmpOp) (a b:M)
 | chain (o o':CmpOp) (a b c:M)
 | isn (no:Bool) (a:M)
 | isb (no b:Bool) (a:M)
 | and (a b:M)
 | or (a b:M)
 | not (a:M)
 | ite (c a b:M)
 | tup (as:Ms)
 | lst (as:Ms)
 | dct (ks:List Str) (as:Ms)
 | isa (t:Ty) (a:M)
 | bi (f:Bi) (as:Ms)
 | ix (a i:M)
 | sl (lo hi:Bool) (a:M) (as:Ms)
 | call (f:Str) (as:Ms)
 | comp (s:Src) (as:Ms) (own:List Nat) (tg:Tg) (cs:Ms) (el:M)
 | meth (m:Me) (o:M) (as:Ms)
 | own (a:M)
 | frz (a:M)
 | rev (a:M)
 | isat (ts:List Ty) (a:M)
 | lset (a:M)
 | sset (a:M)
 | at (a:M) (f:Str)
 | tel (m:Ml) (o:M) (as:Ms)
 | mutv (m:Mu) (o:M) (as:Ms)
 | mcall (o:M) (m:Str) (as:Ms)
 | mk (c:Str) (as:Ms)
 | unr
 | lk (i:Nat) (a:M)
inductive Ms where
 | nil
 | cons (a:M) (r:Ms)
end
abbrev Qd:=D→Za→Prop
abbrev ZA:=List D→Za→Qd→Prop
structure Gam where
 fn:Str→ZA→Prop
 gl:Str→D→Prop
 fld:Str→Str→Prop
 me:Str→Str→ZA→Prop
 ini:Str→ZA→Prop
def isNon:D→Bool
 | .non=>true
 | _=>false
def optB (o:Option Bool)(Q:Bool→Prop):Prop:=match o with | some d=>Q d | none=>False
mutual
def setT:Tg→D→DEnv→Option DEnv
 | .nm i,d,ρ=>some (ρ.set i (some d))
 | .tp a r,.tup ds,ρ=>Ya (.tp a r) ds ρ
 | _,_,_=>none
def Ya:Tg→List D→DEnv→Option DEnv
 | .tp a r,d :: ds,ρ=>match setT a d ρ with
   | some ρ'=>Ya r ds ρ'
   | none=>none
 | .nil,[],ρ=>some ρ
 | _,_,_=>none
end
def wipeD (ρ:DEnv):List Nat→DEnv
 | []=>ρ
 | v :: vs=>(wipeD ρ vs).set v none
def WP (n:Nat):List D→List D
 | []=>[]
 | d :: r=>.tup [.int n,d] :: WP (n+1) r
def zipD:List D→List D→List D
 | a :: r,b :: t=>.tup [a,b] :: zipD r t
 | _,_=>[]
def itS (S:Za):List D→Option (List D)
 | [.str x]=>some (x.cps.toList.map fun c=>.str ⟨#[c]⟩)
 | [d]=>seqD S d
 | _=>none
def Zpp:List D→Option (List D)
 | [.dic ks _]=>some (ks.map kD)
 | _=>none
def Zgj:List D→Option (List D)
 | [.int b]=>if -(2 ^ 62)≤b∧b<2 ^ 62 then some (ZN 0 b) else none
 | _=>none
def Zgk:List D→Option (List D)
 | [.int a,.int b]=>if(-(2 ^ 62)≤a∧a<2 ^ 62)∧-(2 ^ 62)≤b∧b<2 ^ 62 then some (ZN a b) else none
 | _=>none
def ZfT (S:Za):List D→Option (List D)
 | [d]=>(seqD S d).map (WP 0)
 | _=>none
def zipS (S:Za):List D→Option (List D)
 | [d,e]=>match seqD S d,seqD S e with | some xs,some ys=>some (zipD xs ys) | _,_=>none
 | _=>none
def srcD (s:Src)(S:Za)(ds:List D):Option (List D):=
 match s with
 | .it=>itS S ds
 | .rng1=>Zgj ds
 | .rng2=>Zgk ds
 | .enum=>ZfT S ds
 | .zip=>zipS S ds
 | .keys=>Zpp ds
def Ys (step:D→Za→List D→(Za→List D→Prop)→Prop):List D→Za→List D→(List D→Za→Prop)→Prop
 | [],S,acc,Q=>Q acc S
 | d :: r,S,acc,Q=>step d S acc fun S' acc'=>Ys step r S' acc' Q
def appM (ds:List D):List D→Option (D×List D)
 | [y]=>if ds.length<sizeLine then some (.non,ds++[y]) else none
 | _=>none
def extM (S:Za)(ds:List D):List D→Option (D×List D)
 | [y]=>match peel S y with | some ys=>if ds.length+ys.length≤sizeLine then some (.non,ds++ys) else none | none=>none
 | _=>none
def revM (ds:List D):List D→Option (D×List D)
 | []=>some (.non,ds.reverse)
 | _=>none
def clrM:List D→Option (D×List D)
 | []=>some (.non,[])
 | _=>none
def popM (ds:List D):List D→Option (D×List D)
 | []=>match ds[ds.length - 1]? with | some y=>some (y,ds.dropLast) | none=>none
 | _=>none
def UU (ds:List D):List D→Option (D×List D)
 | [.int i]=>if 0≤i∧i<2 ^ 62 then match ds[i.toNat]? with | some y=>some (y,ds.eraseIdx i.toNat) | none=>none else none
 | _=>none
def muD (m:Mu)(S:Za)(ds xs:List D):Option (D×List D):=
 match m with
 | .append=>appM ds xs
 | .extend=>extM S ds xs
 | .reverse=>revM ds xs
 | .clear=>clrM xs
 | .pop=>popM ds xs
 | .popAt=>UU ds xs
def insD (S:Za)(x:D):Option (Str×List (Str×D)):=match x with
 | .obj a=>match S a with | some (.ins c fs)=>some (c,fs) | _=>none
 | _=>none
mutual
def wE (Γ:Gam):M→DEnv→Za→Qd→Prop
 | .v i,ρ,S,Q=>match ρ[i]? with | some (some d)=>Q d S | _=>False
 | .k d,_,S,Q=>Q d S
 | .g x,_,S,Q=>∃d,Γ.gl x d∧Q d S
 | .bin o a b,ρ,S,Q=>wE Γ a ρ S fun x S1=>wE Γ b ρ S1 fun y S2=>optD (binD o S2 x y) fun z=>Q z S2
 | .neg a,ρ,S,Q=>wE Γ a ρ S fun x S1=>match x with | .int i=>Q (.int (-i)) S1 | _=>False
 | .cmp o a b,ρ,S,Q=>wE Γ a ρ S fun x S1=>wE Γ b ρ S1 fun y S2=>optB (cmpB o S2 x y) fun z=>Q (.bl z) S2
 | .chain o o' a b c,ρ,S,Q=>wE Γ a ρ S fun x S1=>wE Γ b ρ S1 fun y S2=>optB (cmpB o S2 x y) fun z=>
   if z=true then wE Γ c ρ S2 fun w S3=>optB (cmpB o' S3 y w) fun z'=>Q (.bl z') S3 else Q (.bl false) S2
 | .isn no a,ρ,S,Q=>wE Γ a ρ S fun x S1=>Q (.bl (no != isNon x)) S1
 | .isb no b a,ρ,S,Q=>wE Γ a ρ S fun x S1=>match x with | .bl b'=>Q (.bl (no != (b' == b))) S1 | _=>False
 | .and a b,ρ,S,Q=>wE Γ a ρ S fun x S1=>optB (truD S1 x) fun t=>if t=true then wE Γ b ρ S1 Q else Q x S1
 | .or a b,ρ,S,Q=>wE Γ a ρ S fun x S1=>optB (truD S1 x) fun t=>if t=true then Q x S1 else wE Γ b ρ S1 Q
 | .not a,ρ,S,Q=>wE Γ a ρ S fun x S1=>optB (truD S1 x) fun t=>Q (.bl (!t)) S1
 | .ite c a b,ρ,S,Q=>wE Γ c ρ S fun x S1=>optB (truD S1 x) fun t=>if t=true then wE Γ a ρ S1 Q else wE Γ b ρ S1 Q
 | .tup as,ρ,S,Q=>wEs Γ as ρ S fun ds S1=>ds.length≤sizeLine∧Q (.tup ds) S1
 | .lst as,ρ,S,Q=>wEs Γ as ρ S fun ds S1=>ds.length≤sizeLine∧Q (.lst ds) S1
 | .dct ks as,ρ,S,Q=>wEs Γ as ρ S fun ds S1=>Q (.dic (ks.map Sum.inr) ds) S1
 | .isa t a,ρ,S,Q=>wE Γ a ρ S fun x S1=>optB (isaD t S1 x) fun b=>Q (.bl b) S1
 | .bi f as,ρ,S,Q=>wEs Γ as ρ S fun ds S1=>optD (biD f S1 ds) fun z=>Q z S1
 | .ix a i,ρ,S,Q=>wE Γ a ρ S fun x S1=>wE Γ i ρ S1 fun y S2=>optD (ixOf S2 x y) fun z=>Q z S2
 | .sl lo hi a as,ρ,S,Q=>wE Γ a ρ S fun x S1=>wIs Γ as ρ S1 fun is S2=>
   match lo,hi,is with
   | false,false,[]=>optD (slOf S2 x none none) fun z=>Q z S2
   | true,false,[l]=>optD (slOf S2 x (some l) none) fun z=>Q z S2
   | false,true,[h]=>optD (slOf S2 x none (some h)) fun z=>Q z S2
   | true,true,[l,h]=>optD (slOf S2 x (some l) (some h)) fun z=>Q z S2
   | _,_,_=>False
 | .call f as,ρ,S,Q=>∃sp,Γ.fn f sp∧wEs Γ as ρ S fun ds S1=>sp ds S1 Q
 | .comp s as own tg cs el,ρ,S,Q=>wEs Γ as ρ S fun ds S1=>∃items,srcD s S1 ds=some items∧
   Ys (fun d S acc K=>srcD s S ds=some items∧∃ρ',setT tg d (wipeD ρ own)=some ρ'∧
     wTs Γ cs ρ' S fun t S'=>if t=true then wE Γ el ρ' S' fun y S''=>acc.length<sizeLine∧K S'' (acc++[y]) else K S' acc) items S1 [] (fun acc S'=>srcD s S' ds=some items∧Q (.lst acc) S')
 | .meth m o as,ρ,S,Q=>wE Γ o ρ S fun x S1=>Y1 x=true∧wEs Γ as ρ S1 fun ds S2=>optD (meD m S2 x ds) fun z=>Q z S2
 | .own a,ρ,S,Q=>wE Γ a ρ S fun x S1=>match x with
   | .lst ds=>∀p,S1 p=none→Q (.obj p) (sput S1 p (.lst ds))
   | .dic ks ds=>∀p,S1 p=none→Q (.obj p) (sput S1 p (.dic (ks.zip ds)))
   | _=>False
 | .frz a,ρ,S,Q=>wE Γ a ρ S fun x S1=>match x with
   | .obj p=>match S1 p with | some (.lst ds)=>Q (.lst ds) (sdel S1 p) | some (.dic kvs)=>Q (.dic (kvs.map (·.1)) (kvs.map (·.2))) (sdel S1 p) | _=>False
   | _=>False
 | .rev a,ρ,S,Q=>wE Γ a ρ S fun x S1=>optD (revD S1 x) fun z=>Q z S1
 | .isat ts a,ρ,S,Q=>wE Γ a ρ S fun x S1=>optB (YW ts S1 x) fun b=>Q (.bl b) S1
 | .lset a,ρ,S,Q=>wE Γ a ρ S fun x S1=>optD (YO S1 x) fun z=>Q z S1
 | .sset a,ρ,S,Q=>wE Γ a ρ S fun x S1=>optD (YQ S1 x) fun z=>Q z S1
 | .at a f,ρ,S,Q=>wE Γ a ρ S fun x S1=>match insD S1 x with
   | some (c,fs)=>Γ.fld c f∧optD (fs.lookup f) fun z=>Q z S1
   | none=>False
 | .tel m o as,ρ,S,Q=>wE Γ o ρ S fun x S1=>mlTy m S1 x=true∧wEs Γ as ρ S1 fun ds S2=>optD (mlD m S2 x ds) fun z=>Q z S2
 | .mutv m o as,ρ,S,Q=>wE Γ o ρ S fun y S1=>∃a ds1,y=.obj a∧S1 a=some (.lst ds1)∧wEs Γ as ρ S1 fun xs S2=>∃ds z ds',S2 a=some (.lst ds)∧muD m S2 ds xs=some (z,ds')∧Q z (sput S2 a (.lst ds'))
 | .mcall o m as,ρ,S,Q=>wE Γ o ρ S fun x S1=>match insD S1 x with
   | some (c,fs)=>fs.lookup m=none∧∃sp,Γ.me c m sp∧wEs Γ as ρ S1 fun ds S2=>sp (x :: ds) S2 Q
   | none=>False
 | .mk c as,ρ,S,Q=>∃sp,Γ.ini c sp∧wEs Γ as ρ S fun ds S1=>∀p,S1 p=none→sp (.obj p :: ds) (sput S1 p (.ins c [])) fun v S2=>v=.non∧Q (.obj p) S2
 | .unr,_,_,_=>False
 | .lk i a,ρ,S,Q=>∃p kvs,ρ[i]?=some (some (.obj p))∧S p=some (.dic kvs)∧wE Γ a (ρ.set i (some (.dic (kvs.map (·.1)) (kvs.map (·.2))))) (fun _=>none) fun d _=>d.pure=true∧Q d S
def wEs (Γ:Gam):Ms→DEnv→Za→(List D→Za→Prop)→Prop
 | .nil,_,S,Q=>Q [] S
 | .cons a r,ρ,S,Q=>wE Γ a ρ S fun x S1=>wEs Γ r ρ S1 fun xs S2=>Q (x :: xs) S2
def wIs (Γ:Gam):Ms→DEnv→Za→(List Int→Za→Prop)→Prop
 | .nil,_,S,Q=>Q [] S
 | .cons a r,ρ,S,Q=>wE Γ a ρ S fun x S1=>match x with | .int i=>wIs Γ r ρ S1 fun xs S2=>Q (i :: xs) S2 | _=>False
def wTs (Γ:Gam):Ms→DEnv→Za→(Bool→Za→Prop)→Prop
 | .nil,_,S,Q=>Q true S
 | .cons a .nil,ρ,S,Q=>wE Γ a ρ S fun x S1=>optB (truD S1 x) fun t=>Q t S1
 | .cons _ (.cons _ _),_,_,_=>False
end
def wT (Γ:Gam)(a:M)(ρ:DEnv)(S:Za)(Q:Bool→Za→Prop):Prop:=wE Γ a ρ S fun x S1=>optB (truD S1 x) fun t=>Q t S1
mutual
inductive C where
 | asg (tg:Tg) (e:M)
 | par (i j:Nat) (a b:M)
 | aug (i:Nat) (o:Operator) (e:M)
 | sub (o i e:M)
 | sat (o:M) (f:Str) (e:M)
 | dpop (o k d:M)
 | exp (e:M)
 | mut (m:Mu) (o:M) (as:Ms)
 | ret (e:M)
 | retN
 | pass
 | ifs (c:M) (a b:Cs)
 | for (s:Src) (as:Ms) (tg:Tg) (body:Cs)
 | while (c:M) (body:Cs)
 | wipe (is:List Nat)
 | fre (i:Nat)
 | unr
inductive Cs where
 | nil
 | cons (a:C) (r:Cs)
end
structure YM where
 nx:DEnv→Za→Prop
 rt:Qd
def subD (S:Za)(o i d:D):Option Za:=
 match o with
 | .obj a=>match S a with
   | some (.lst ds)=>match i with
     | .int k=>if 0≤k∧k<ds.length then some (sput S a (.lst (ds.set k.toNat d))) else none
     | _=>none
   | some (.dic kvs)=>match keyD i with
     | some k=>if kvs.length<sizeLine then some (sput S a (.dic (Xe kvs k d))) else none
     | none=>none
   | _=>none
 | _=>none
def Ue (f:Str)(d:D):List (Str×D)→List (Str×D)
 | []=>[(f,d)]
 | (g,x) :: r=>if g=f then(g,d) :: r else(g,x) :: Ue f d r
def satD (S:Za)(o:D)(f:Str)(d:D):Option (Str×Za):=match o with
 | .obj a=>match S a with
   | some (.ins c fs)=>if fs.length<900 then some (c,sput S a (.ins c (Ue f d fs))) else none
   | _=>none
 | _=>none
def WN (S:Za)(o k:D):Option Za:=match o with
 | .obj a=>match S a with
   | some (.dic kvs)=>match keyD k with | some k=>some (sput S a (.dic (kvs.filter fun kv=>!decide (kv.1=k)))) | none=>none
   | _=>none
 | _=>none
def wFor (g:Za→Prop)(turn:D→DEnv→Za→(DEnv→Za→Prop)→Prop):List D→DEnv→Za→(DEnv→Za→Prop)→Prop
 | [],ρ,S,Q=>g S∧Q ρ S
 | d :: r,ρ,S,Q=>g S∧turn d ρ S fun ρ' S'=>wFor g turn r ρ' S' Q
mutual
def wC (Γ:Gam):C→YM→DEnv→Za→Prop
 | .asg tg e,E,ρ,S=>wE Γ e ρ S fun x S1=>match setT tg x ρ with | some ρ'=>E.nx ρ' S1 | none=>False
 | .par i j a b,E,ρ,S=>wE Γ a ρ S fun x S1=>wE Γ b ρ S1 fun y S2=>E.nx ((ρ.set i (some x)).set j (some y)) S2
 | .aug i o e,E,ρ,S=>match ρ[i]? with
   | some (some (.int x))=>wE Γ e ρ S fun y S1=>match o,y with
     | .Add,.int y=>E.nx (ρ.set i (some (.int (x+y)))) S1
     | .Sub,.int y=>E.nx (ρ.set i (some (.int (x - y)))) S1
     | _,_=>False
   | _=>False
 | .sub o i e,E,ρ,S=>wE Γ e ρ S fun x S1=>wE Γ o ρ S1 fun y S2=>wE Γ i ρ S2 fun z S3=>match subD S3 y z x with | some S4=>E.nx ρ S4 | none=>False
 | .sat o f e,E,ρ,S=>wE Γ e ρ S fun x S1=>wE Γ o ρ S1 fun y S2=>match satD S2 y f x with | some (c,S3)=>Γ.fld c f∧E.nx ρ S3 | none=>False
 | .dpop o k d,E,ρ,S=>wE Γ o ρ S fun x S1=>(dicD S1 x).isSome=true∧wE Γ k ρ S1 fun y S2=>wE Γ d ρ S2 fun _ S3=>match WN S3 x y with | some S4=>E.nx ρ S4 | none=>False
 | .exp e,E,ρ,S=>wE Γ e ρ S fun _ S1=>E.nx ρ S1
 | .mut m o as,E,ρ,S=>wE Γ o ρ S fun y S1=>∃a ds1,y=.obj a∧S1 a=some (.lst ds1)∧wEs Γ as ρ S1 fun xs S2=>∃ds z ds',S2 a=some (.lst ds)∧muD m S2 ds xs=some (z,ds')∧E.nx ρ (sput S2 a (.lst ds'))
 | .ret e,E,ρ,S=>wE Γ e ρ S E.rt
 | .retN,E,_,S=>E.rt .non S
 | .pass,E,ρ,S=>E.nx ρ S
 | .ifs c a b,E,ρ,S=>wT Γ c ρ S fun t S1=>if t=true then wCs Γ a E ρ S1 else wCs Γ b E ρ S1
 | .for s as tg body,E,ρ,S=>wEs Γ as ρ S fun ds S1=>∃items,srcD s S1 ds=some items∧
   wFor (fun S=>srcD s S ds=some items) (fun d ρ S N=>∃ρ',setT tg d ρ=some ρ'∧wCs Γ body { E with nx:=N } ρ' S) items ρ S1 E.nx
 | .while c body,E,ρ,S=>∃W:Nat→DEnv→Za→Prop,(∃m,W m ρ S)∧∀m ρ S,W m ρ S→
   wT Γ c ρ S fun t S1=>if t=true then wCs Γ body { E with nx:=fun ρ' S'=>∃m',m'<m∧W m' ρ' S' } ρ S1 else E.nx ρ S1
 | .wipe is,E,ρ,S=>E.nx (wipeD ρ is) S
 | .fre i,E,ρ,S=>match ρ[i]? with
   | some (some (.obj p))=>match S p with | some (.lst ds)=>E.nx (ρ.set i (some (.lst ds))) (sdel S p) | some (.dic kvs)=>E.nx (ρ.set i (some (.dic (kvs.map (·.1)) (kvs.map (·.2))))) (sdel S p) | _=>False
   | _=>False
 | .unr,_,_,_=>False
def wCs (Γ:Gam):Cs→YM→DEnv→Za→Prop
 | .nil,E,ρ,S=>E.nx ρ S
 | .cons a r,E,ρ,S=>wC Γ a { E with nx:=fun ρ' S'=>wCs Γ r E ρ' S' } ρ S
end
def letGo (Q:Qd):Qd:=fun d S=>∃S',(∀a o,S' a=some o→S a=some o)∧Q d S'
def XS (n:Nat)(ds:List D):DEnv:=ds.map some++List.replicate (n - ds.length) none
def FOk (Γ:Gam)(n ps:Nat)(body:Cs)(sp:ZA):Prop:=
 ∀ds S Q,sp ds S Q→ds.length=ps∧wCs Γ body { nx:=fun _ S'=>letGo Q .non S',rt:=letGo Q } (XS n ds) S
end Sw
namespace Sw
open PySem PySem.Spec PyProof.Rows L2
abbrev NewT (xs:List V)(Q:VK)(H:Hp):Prop:=∀(p:Addr)(o:Obj),H p=none→o.dict=none→Q (.ref p) (upd H p (.frz o (.tup xs)))
section
variable {X:Cx}{pins:List (Addr×Obj)}{σ:L2.St}{H:Hp}{s:Shared}{Q:VK}
abbrev tupO (its:List Value):Obj:={ cls:=.type "tuple",data:=.seq its.toArray }
theorem laid_tup {xs:List V}{its:List Value}{tk:Nat}(I:Inv X pins σ H s)(r:Vals xs its)(hz:xs.length≤sizeLine)(h:NewT xs Q H):EP X pins σ Q (.ref s.heap.objs.size) { s with heap:=s.heap.push (tupO its),toks:=tk }:=by
 have at0:(s.heap.push (tupO its)).get? s.heap.objs.size=some (tupO its):=Heap.get?_push_size _ rfl
 exact⟨.ref s.heap.objs.size,upd H s.heap.objs.size (.frz (tupO its) (.tup xs)),I.laid (t':=tk) (fun b ob q=>Heap.get?_push_of_some _ q) (Nat.le_refl _) ⟨at0,hz,its,r,⟨_,at0,rfl,_,rfl⟩⟩,rfl,h _ _ (I.hok.fresh (Nat.le_refl _)) rfl⟩
def ZpT (t:TA):TE:=fun σ H Q=>t σ H fun xs H1=>xs.length≤sizeLine∧NewT xs Q H1
theorem Zlw {es:List Expr}{t:TA}{k:Nat}{pos:Pos}(h:PA X es t):PE X (.Tuple es k pos) (ZpT t):=by
 refine⟨fun pins s σ H Q I hq=>?_⟩
 refine wpAny_Tuple_spliced (thn (h.run pos pins s σ H _ I hq) fun us s1 ⟨xs,H1,I1,r,z,q⟩=>⟨by rw[← r.length];exact z,?_⟩)
 exact laid_tup (tk:=s1.toks) I1 r z q
theorem ZbE:CallR X (.type "tuple") (fun xs H Q=>∃p ys,xs=[.ref p]∧((SqL X.K H p ys∧NewT ys Q H)∨(SqT X.K H p ys∧Q (.ref p) H))):=by
 intro pins s σ H xs us Q I r ⟨p,ys,ex,h⟩
 subst ex
 obtain⟨u,rfl,rx⟩:=vals1 r
 cases rx
 rcases h with ⟨hq,q⟩ |⟨hq,q⟩
 · obtain⟨its,r',pl,hz⟩:=I.list hq
   refine call_tuple_list pl.isList (fun h' kp=>?_) (by have:=r'.length;simp only[List.size_toArray];omega)
   exact laid_tup (tk:=s.toks) (I.kept (t':=s.toks) kp) r' hz q
 · obtain⟨its,_,pl,_⟩:=I.tuple hq
   exact call_tuple_same pl ⟨.ref p,H,I,rfl,q⟩
def ZpC (K:PySem.W.Frag):R2:=fun x y H Q=>∃a b xs ys,x=.ref a∧y=.ref b∧SqT K H a xs∧SqT K H b ys∧xs.length+ys.length≤sizeLine∧(xs=[]→Q (.ref b) H)∧(xs≠[]→ys=[]→Q (.ref a) H)∧(xs≠[]→ys≠[]→NewT (xs++ys) Q H)
theorem Zlp:OpR X (binaryOp .Add) (ZpC X.K):=by
 intro pins s σ H x y v u Q I rx ry ⟨a,b,xs,ys,ex,ey,ha,hb,hz,q0,q1,q2⟩
 subst ex ey
 cases rx;cases ry
 obtain⟨its,r1,p1,_⟩:=I.tuple ha
 obtain⟨its2,r2,p2,_⟩:=I.tuple hb
 by_cases hx:xs=[]
 · subst hx
   cases r1
   exact cat_tup0 p1 p2 ⟨.ref b,H,I,rfl,q0 rfl⟩
 · exact HT.cat_tup p1 p2 (fun z=>hx (r1.nil_iff.mp z)) (fun z=>⟨.ref a,H,I,rfl,q1 hx (r2.nil_iff.mp z)⟩) (fun z=>laid_tup (tk:=s.toks) I (r1.append r2) (by rw[List.length_append];exact hz) (q2 hx fun w=>z (r2.nil_iff.mpr w))) (by rw[← r1.length,← r2.length];exact hz)
def rSlF (K:PySem.W.Frag):V→Option Int→Option Int→Hp→VK→Prop:=fun x lo hi H Q=>∃a xs,x=.ref a∧SqT K H a xs∧
 (HT.sIx xs.length 0 lo=0∧HT.sIx xs.length xs.length hi=xs.length→Q (.ref a) H)∧(¬(HT.sIx xs.length 0 lo=0∧HT.sIx xs.length xs.length hi=xs.length)→NewT (cutV xs lo hi) Q H)
theorem ZlE:SlR X (rSlF X.K):=by
 intro pins s σ H x v vl vu lo hi sl Q I rx hs pl pu ⟨a,xs,ex,hx,q1,q2⟩
 subst ex
 cases rx
 obtain⟨its,r,ht,hz⟩:=I.tuple hx
 have hlen:its.toArray.size=xs.length:=by rw[List.size_toArray];exact r.length.symm
 refine⟨"tuple",_,PyProof.Rows.slot_tuple_getitem.lookup,ht.typeIs,?_⟩
 by_cases hw:HT.sIx xs.length 0 lo=0∧HT.sIx xs.length xs.length hi=xs.length
 · exact getItem_tuple_whole ht hs pl pu (by rw[hlen];exact hw) ⟨.ref a,H,I,rfl,q1 hw⟩
 · refine HT.getItem_tuple_cut ht hs pl pu (by rw[hlen];exact hw) ?_ (by rw[hlen];exact hz)
   rw[hlen]
   exact laid_tup (tk:=s.toks) I ((r.drop (HT.sIx xs.length 0 lo)).take (HT.sIx xs.length xs.length hi - HT.sIx xs.length 0 lo)) (Nat.le_trans (cutV_length xs lo hi) hz) (q2 hw)
theorem ZaM {x y z:Str}{t u v:Tok}{k:Nat}(I:Inv X pins σ H s)(h:NewT [.str x,.str y,.str z] Q H):EP X pins σ Q (.ref s.heap.objs.size) { s with toks:=k,heap:=s.heap.push (tupO [.str x t,.str y u,.str z v]) }:=
 laid_tup (tk:=k) I (xs:=[.str x,.str y,.str z]) (.cons ⟨t,rfl⟩ (.cons ⟨u,rfl⟩ (.cons ⟨v,rfl⟩ .nil))) (by show 3≤sizeLine;decide) h
theorem Zjc:MtR X "str.partition" (fun x xs H Q=>∃a b,x=.str a∧xs=[.str b]∧(b.length == 0)=false∧a.length≤sizeLine∧NewT [.str (Txt.partition a b).1,.str (Txt.partition a b).2.1,.str (Txt.partition a b).2.2] Q H):=by
 intro pins s σ H x xs v us Q I rx rs ⟨a,b,ex,exs,hb,hz,h⟩
 subst ex exs
 obtain⟨t,rfl⟩:=rx
 obtain⟨u,rfl,r1⟩:=vals1 rs
 obtain⟨t2,rfl⟩:=r1
 refine call_meets F.slot_str_partition (typeIs_str _ _ _) F.entry_str_partition (F.args_str_partition_2 _ _) (meets_str_partition a b t t2 hb hz) ?_
 unfold Txt.partition at h
 revert h
 cases Builtin.Str.occurrences a b 0 a.length 1 with
 | nil=>intro h;exact ZaM I h
 | cons i r=>intro h;exact ZaM I h
end
end Sw
namespace Sw
open PySem PySem.Spec PyProof.Rows L2
def ownOf:D→Option MO
 | .lst ds=>some (.lst ds)
 | .dic ks ds=>some (.dic (ks.zip ds))
 | _=>none
def lift (K:PySem.W.Frag)(cl:ClsT)(f:Bool)(Q:Qd)(H:Hp)(S:Za)(P:Addr→Prop):VK:=fun v H'=>∃d S',Le H S P H' S'∧RS K cl H' S' P∧Rep K H' S' P v d∧Q d S'∧
 (f=true→∀mo,ownOf d=some mo→∃p,v=.ref p∧S' p=none∧Le H S P H' (sput S' p mo)∧RS K cl H' (sput S' p mo) P)
section
variable {K:PySem.W.Frag}{cl:ClsT}{H H1:Hp}{S S1:Za}{P:Addr→Prop}{Q Q':Qd}
theorem Zw {f:Bool}{v:V}{d:D}(le:Le H S P H1 S1)(rs:RS K cl H1 S1 P)(r:Rep K H1 S1 P v d)(q:Q d S1)(h:ownOf d=none∨f=false):lift K cl f Q H S P v H1:=by
 refine⟨d,S1,le,rs,r,q,fun hf mo e=>?_⟩
 rcases h with h | h
 · rw[h] at e;cases e
 · rw[h] at hf;cases hf
theorem Wp {f:Bool}{p:Addr}{xs:List V}{ds:List D}(le:Le H S P H1 S1)(rs:RS K cl H1 S1 P)(hp:H1 p=none)(r:Zb K H1 S1 P xs ds)(q:Q (.lst ds) S1):lift K cl f Q H S P (.ref p) (upd H1 p (.lst xs)):=by
 obtain⟨s0,np⟩:=rs.none_of hp
 refine⟨.lst ds,S1,le.trans (Le.new rs hp),rs.new hp,.lst upd_same s0 np (Zb.le rs (Le.new rs hp) _ r),q,fun _ mo e=>?_⟩
 cases e
 exact⟨p,rfl,s0,le.trans (Le.newOwn rs hp),rs.newOwn hp r⟩
theorem Zad {f:Bool}{p:Addr}{o:Obj}{xs:List V}{ds:List D}(le:Le H S P H1 S1)(rs:RS K cl H1 S1 P)(hp:H1 p=none)(hn:o.dict=none)(r:Zb K H1 S1 P xs ds)(q:Q (.tup ds) S1):lift K cl f Q H S P (.ref p) (upd H1 p (.frz o (.tup xs))):=
 ⟨.tup ds,S1,le.trans (Le.new rs hp),rs.new hp,.tup ⟨o,upd_same,hn⟩ (Zb.le rs (Le.new rs hp) _ r),q,fun _ mo e=>by cases e⟩
theorem RS.newDic (r:RS K cl H S P){p:Addr}{kvs:List (Key×D)}{vs:List V}(hp:H p=none)(hl:vs.length=kvs.length)(hn:(kvs.map (·.1)).Nodup)(q:Zb K H S P vs (kvs.map (·.2))):RS K cl (upd H p (.dK ((kvs.map (·.1)).zip vs))) (sput S p (.dic kvs)) P:=by
 have le:Le H S P (upd H p (.dK ((kvs.map (·.1)).zip vs))) (sput S p (.dic kvs)):=Le.newOwn r hp
 refine⟨fun a mo e=>?_,fun a z=>?_,XL r (.inl hp)⟩
 · by_cases ha:a=p
   · subst ha
     rw[Zq] at e;cases e
     exact⟨(r.none_of hp).2,vs,hl,upd_same,hn,Zb.le r le _ q⟩
   · rw[Zo ha] at e
     obtain⟨np,m⟩:=r.own a mo e
     exact⟨np,r.le_own le m (upd_ne ha)⟩
 · obtain⟨s,xs,e,mu⟩:=r.hid a z
   exact⟨by rw[Zo (ne_of_none e hp)];exact s,xs,by rw[upd_ne (ne_of_none e hp)];exact e,mu⟩
theorem Xs {α β:Type}:∀(ks:List α)(ds:List β),ks.length=ds.length→(ks.zip ds).map (·.1)=ks
 | [],[],_=>rfl
 | k :: ks,d :: ds,h=>by rw[List.zip_cons_cons,List.map_cons,Xs ks ds (by simpa using h)]
 | [],_ :: _,h=>by simp at h
 | _ :: _,[],h=>by simp at h
theorem Va {α β:Type}:∀(ks:List α)(ds:List β),ks.length=ds.length→(ks.zip ds).map (·.2)=ds
 | [],[],_=>rfl
 | k :: ks,d :: ds,h=>by rw[List.zip_cons_cons,List.map_cons,Va ks ds (by simpa using h)]
 | [],_ :: _,h=>by simp at h
 | _ :: _,[],h=>by simp at h
theorem Zac {f:Bool}{p:Addr}{xs:List V}{ks:List Key}{ds:List D}(le:Le H S P H1 S1)(rs:RS K cl H1 S1 P)(hp:H1 p=none)(hl:ks.length=xs.length)(hn:ks.Nodup)(r:Zb K H1 S1 P xs ds)(q:Q (.dic ks ds) S1) :
  lift K cl f Q H S P (.ref p) (upd H1 p (.dK (ks.zip xs))):=by
 obtain⟨s0,np⟩:=rs.none_of hp
 refine⟨.dic ks ds,S1,le.trans (Le.new rs hp),rs.new hp,.dic (.inl ⟨upd_same,s0,np⟩) hl (Zb.le rs (Le.new rs hp) _ r),q,fun _ mo e=>?_⟩
 cases e
 have hld:ks.length=ds.length:=by have:=r.length;omega
 refine⟨p,rfl,s0,le.trans (Le.newOwn rs hp),?_⟩
 have e1:=Xs ks ds hld
 have h:=RS.newDic (kvs:=ks.zip ds) (vs:=xs) rs hp (by rw[List.length_zip];omega) (by rw[e1];exact hn) (by rw[Va ks ds hld];exact r)
 rw[e1] at h
 exact h
theorem Yu {f f':Bool}{v:V}{H':Hp}(h:lift K cl f Q H S P v H')(hq:∀d S',Q d S'→Q' d S')(hf:f'=true→f=true):lift K cl f' Q' H S P v H':=by
 obtain⟨d,S',le,rs,r,q,o⟩:=h
 exact⟨d,S',le,rs,r,hq _ _ q,fun e=>o (hf e)⟩
theorem Ye {f:Bool}{v:V}{H':Hp}(le:Le H S P H1 S1)(h:lift K cl f Q H1 S1 P v H'):lift K cl f Q H S P v H':=by
 obtain⟨d,S',le',rs,r,q,o⟩:=h
 refine⟨d,S',le.trans le',rs,r,q,fun e mo em=>?_⟩
 obtain⟨p,e1,e2,e3,e4⟩:=o e mo em
 exact⟨p,e1,e2,le.trans e3,e4⟩
theorem ZM (rs:RS K cl H S P){v:V}{d:D}{ds:List D}(r:Rep K H S P v d)(h:peel S d=some ds):∃a xs,v=.ref a∧H a=some (.lst xs)∧Zb K H S P xs ds:=by
 cases r with
 | lst e _ _ q=>cases h;exact⟨_,_,rfl,e,q⟩
 | obj a=>
   unfold peel at h
   dsimp only at h
   cases e:S a with
   | none=>rw[e] at h;cases h
   | some mo=>
     rw[e] at h
     cases mo with
     | lst es=>
       cases h
       obtain⟨_,xs,e1,q⟩:=rs.own a _ e
       exact⟨a,xs,rfl,e1,q⟩
     | dic kvs=>cases h
     | ins c fs=>cases h
 | _=>cases h
theorem Yl (rs:RS K cl H S P){v:V}{d:D}{ds:List D}(r:Rep K H S P v d)(h:seqD S d=some ds):∃a xs,v=.ref a∧(H a=some (.lst xs)∨TupF K H a xs)∧Zb K H S P xs ds:=by
 cases r with
 | tup e q=>cases h;exact⟨_,_,rfl,.inr e,q⟩
 | lst e s p q=>cases h;exact⟨_,_,rfl,.inl e,q⟩
 | obj a=>
   obtain⟨a',xs,e1,e2,e3⟩:=ZM rs (.obj a) h
   exact⟨a',xs,e1,.inl e2,e3⟩
 | _=>cases h
theorem XH (rs:RS K cl H S P){v:V}{d:D}{kvs:List (Key×D)}(r:Rep K H S P v d)(h:dicD S d=some kvs):∃a vs,v=.ref a∧vs.length=kvs.length∧Rd H a (.dK ((kvs.map (·.1)).zip vs))∧Zb K H S P vs (kvs.map (·.2)):=by
 cases r with
 | @dic a ks xs ds e l q=>
   cases h
   have hl:=q.length
   refine⟨_,xs,rfl,?_,?_,?_⟩
   · rw[List.length_zip];omega
   · rw[Xs _ _ (by omega)];exact e.rd
   · rw[Va _ _ (by omega)];exact q
 | obj a=>
   unfold dicD at h
   dsimp only at h
   cases e:S a with
   | none=>rw[e] at h;cases h
   | some mo=>
     rw[e] at h
     cases mo with
     | dic es=>
       cases h
       obtain⟨_,vs,l,e1,_,q⟩:=rs.own a _ e
       exact⟨a,vs,rfl,l,.inl e1,q⟩
     | lst kvs=>cases h
     | ins c fs=>cases h
 | _=>cases h
mutual
theorem Zcz (rs:RS K cl H S P):∀ {v:V} (d:D),d.pure=true→Rep K H S P v d→Dp K H v d.toP
 | _,.non,_,.non=>.non
 | _,.bl _,_,.bl b=>.bl b
 | _,.int _,_,.int i=>.int i
 | _,.str _,_,.str x=>.str x
 | _,.tup ds,h,.tup e q=>by rw[D.toP];exact .tup e.t (Wa rs ds (by rw[D.pure] at h;exact h) q)
 | _,.lst ds,h,.lst e _ _ q=>by rw[D.toP];exact .lst (SqL.of e) (Wa rs ds (by rw[D.pure] at h;exact h) q)
 | _,.dic _ _,h,_=>by rw[D.pure] at h;cases h
 | _,.scr _,h,_=>by rw[D.pure] at h;cases h
 | _,.obj _,h,_=>by rw[D.pure] at h;cases h
theorem Wa (rs:RS K cl H S P):∀ {vs:List V} (ds:List D),D.pureAll ds=true→Zb K H S P vs ds→DpAll K H vs (D.toPs ds)
 | _,[],_,.nil=>.nil
 | _,d :: r,h,.cons e q=>by
   rw[D.pureAll,Bool.and_eq_true] at h
   rw[D.toPs]
   exact .cons (Zcz rs d h.1 e) (Wa rs r h.2 q)
end
mutual
theorem ZmC (rs:RS K cl H S P):∀ {v:V} (d:D),(d.res S).pure=true→Rep K H S P v d→Dp K H v (d.res S).toP
 | _,.non,_,.non=>.non
 | _,.bl _,_,.bl b=>.bl b
 | _,.int _,_,.int i=>.int i
 | _,.str _,_,.str x=>.str x
 | _,.tup ds,h,.tup e q=>by rw[D.res] at h ⊢;rw[D.toP];exact .tup e.t (Vo rs ds (by rw[D.pure] at h;exact h) q)
 | _,.lst ds,h,.lst e _ _ q=>by rw[D.res] at h ⊢;rw[D.toP];exact .lst (SqL.of e) (Vo rs ds (by rw[D.pure] at h;exact h) q)
 | _,.dic _ _,h,_=>by rw[D.res,D.pure] at h;cases h
 | _,.scr _,h,_=>by rw[D.res,D.pure] at h;cases h
 | _,.obj a,h,.obj _=>by
   rw[D.res] at h ⊢
   cases e:S a with
   | none=>rw[e] at h;dsimp only at h;rw[D.pure] at h;cases h
   | some mo=>
     rw[e] at h
     cases mo with
     | lst ds=>
       dsimp only at h ⊢
       obtain⟨_,xs,e1,q⟩:=rs.own a _ e
       rw[D.toP]
       exact .lst (SqL.of e1) (Wa rs ds (by rw[D.pure] at h;exact h) q)
     | dic _=>dsimp only at h;rw[D.pure] at h;cases h
     | ins _ _=>dsimp only at h;rw[D.pure] at h;cases h
theorem Vo (rs:RS K cl H S P):∀ {vs:List V} (ds:List D),D.pureAll (D.ress S ds)=true→Zb K H S P vs ds→DpAll K H vs (D.toPs (D.ress S ds))
 | _,[],_,.nil=>.nil
 | _,d :: r,h,.cons e q=>by
   rw[D.ress,D.pureAll,Bool.and_eq_true] at h
   rw[D.ress,D.toPs]
   exact .cons (ZmC rs d h.1 e) (Vo rs r h.2 q)
end
theorem XW (rs:RS K cl H S P){v:V}{d:D}{p:PyData}(r:Rep K H S P v d)(h:Zl S d=some p):Dp K H v p∧p.plain=true:=by
 have gen:∀d:D,Rep K H S P v d→(if d.pure=true then some d.toP else none)=some p→Dp K H v p∧p.plain=true:=fun d r h=>by
  split at h
  · next hp=>cases h;exact⟨Zcz rs d hp r,XU d hp⟩
  · cases h
 cases r with
 | obj a=>
   unfold Zl at h
   dsimp only at h
   cases e:S a with
   | none=>rw[e] at h;cases h
   | some mo=>
     rw[e] at h
     cases mo with
     | lst ds=>
       have h:(if D.pureAll ds=true then some (.list (D.toPs ds)) else none)=some p:=h
       split at h
       · next hp=>
         cases h
         obtain⟨_,xs,e1,q⟩:=rs.own a _ e
         exact⟨.lst (SqL.of e1) (Wa rs ds hp q),by rw[PyData.plain];exact ZQ ds hp⟩
       · cases h
     | dic _=>cases h
     | ins _ _=>cases h
 | non=>exact gen _ .non h
 | bl b=>exact gen _ (.bl b) h
 | int b=>exact gen _ (.int b) h
 | str b=>exact gen _ (.str b) h
 | @tup _ _ ds a b=>
   unfold Zl at h
   dsimp only at h
   split at h
   · next hp=>cases h;exact⟨.tup a.t (Vo rs ds hp b),by rw[PyData.plain];exact ZQ _ hp⟩
   · cases h
 | @lst _ _ ds a b c d=>
   unfold Zl at h
   dsimp only at h
   split at h
   · next hp=>cases h;exact⟨.lst (SqL.of a) (Vo rs ds hp d),by rw[PyData.plain];exact ZQ _ hp⟩
   · cases h
 | dic a b c=>exact gen _ (.dic a b c) h
 | scr a b=>exact gen _ (.scr a b) h
end
section
variable {X:Cx}{cl:ClsT}{pins:List (Addr×Obj)}{σ:L2.St}{H:Hp}{S:Za}{P:Addr→Prop}{s:Shared}
abbrev Just (z:D)(S:Za):Qd:=fun d S'=>d=z∧S'=S
theorem Zt (rs:RS X.K cl H S P){v:V}{z:D}(r:Rep X.K H S P v z)(h:ownOf z=none):lift X.K cl true (Just z S) H S P v H:=Zw (Le.refl rs) rs r ⟨rfl,rfl⟩ (.inl h)
theorem YX (rs:RS X.K cl H S P){p:Addr}{xs:List V}{ds:List D}(hp:H p=none)(r:Zb X.K H S P xs ds):lift X.K cl true (Just (.lst ds) S) H S P (.ref p) (upd H p (.lst xs)):=Wp (Le.refl rs) rs hp r ⟨rfl,rfl⟩
theorem V3 (rs:RS X.K cl H S P){p:Addr}{o:Obj}{xs:List V}{ds:List D}(hp:H p=none)(hn:o.dict=none)(r:Zb X.K H S P xs ds):lift X.K cl true (Just (.tup ds) S) H S P (.ref p) (upd H p (.frz o (.tup xs))):=Zad (Le.refl rs) rs hp hn r ⟨rfl,rfl⟩
theorem Zb.flatrep {xs:List V}{ds:List D}(r:Zb X.K H S P xs ds):∀n:Nat,Zb X.K H S P (List.replicate n xs).flatten (List.replicate n ds).flatten
 | 0=>.nil
 | n+1=>by rw[List.replicate_succ,List.replicate_succ,List.flatten_cons,List.flatten_cons];exact Zb.app r (Zb.flatrep r n)
theorem ZcN (rs:RS X.K cl H S P){x y:V}{dx dy:D}{a b:List D}(rx:Rep X.K H S P x dx)(ry:Rep X.K H S P y dy)(ha:peel S dx=some a)(hb:peel S dy=some b)(hz:a.length+b.length≤sizeLine)
  {v u:Value} (I:Inv X pins σ H s) (hv:RelV x v) (hu:RelV y u):wpAny (model X.prog X.w) X.A (binaryOp .Add v u) (EP X pins σ (lift X.K cl true (Just (.lst (a++b)) S) H S P)) X.xe s:=by
 obtain⟨p,xs,rfl,hp,qx⟩:=ZM rs rx ha
 obtain⟨q,ys,rfl,hq,qy⟩:=ZM rs ry hb
 have l1:=qx.length
 have l2:=qy.length
 exact op_cat pins s σ H _ _ v u _ I hv hu ⟨p,q,xs,ys,rfl,rfl,hp,hq,by omega,fun r hr=>YX rs hr (Zb.app qx qy)⟩
theorem ZkB (o:Operator)(rs:RS X.K cl H S P){x y:V}{dx dy z:D}(rx:Rep X.K H S P x dx)(ry:Rep X.K H S P y dy)(h:binD o S dx dy=some z){v u:Value}(I:Inv X pins σ H s)(hv:RelV x v)(hu:RelV y u) :
  wpAny (model X.prog X.w) X.A (binaryOp o v u) (EP X pins σ (lift X.K cl true (Just z S) H S P)) X.xe s:=by
 have bothI:∀ {i j:Int},dx=.int i→dy=.int j→x=.int i∧y=.int j:=fun {i j} e1 e2=>by
  subst e1 e2;cases rx;cases ry;exact⟨rfl,rfl⟩
 have iv:∀k:Int,lift X.K cl true (Just (.int k) S) H S P (.int k) H:=fun k=>Zt rs (.int k) rfl
 have other:∀ {i j:Int},dx=.int i→dy=.int j→x=.int i∧y=.int j:=bothI
 cases o with
 | Add=>
   change addD S dx dy=some z at h
   unfold addD at h
   split at h
   · next i j=>
     cases h
     obtain⟨rfl,rfl⟩:=bothI rfl rfl
     exact op_add pins s σ H _ _ v u _ I hv hu ⟨i,j,rfl,rfl,iv _⟩
   · next i j=>
     split at h
     · next hz=>
       cases h
       cases rx;cases ry
       exact op_add_str pins s σ H _ _ v u _ I hv hu ⟨i,j,rfl,rfl,hz,Zt rs (.str _) rfl⟩
     · cases h
   · next a b=>
     split at h
     · next hz=>
       cases h
       cases rx with
       | tup e1 q1=>
         cases ry with
         | tup e2 q2=>
           have l1:=q1.length
           have l2:=q2.length
           refine Zlp pins s σ H _ _ v u _ I hv hu ⟨_,_,_,_,rfl,rfl,e1.t,e2.t,by omega,fun z=>?_,fun z1 z2=>?_,fun z1 z2 p o hp hn=>?_⟩
           · subst z
             have:a=[]:=by cases q1;rfl
             subst this
             exact Zt rs (.tup e2 q2) rfl
           · subst z2
             have:b=[]:=by cases q2;rfl
             subst this
             rw[List.append_nil]
             exact Zt rs (.tup e1 q1) rfl
           · exact V3 rs hp hn (Zb.app q1 q2)
     · cases h
   · split at h
     · next a b ha hb=>
       split at h
       · next hz=>cases h;exact ZcN rs rx ry ha hb hz I hv hu
       · cases h
     · cases h
 | Mult=>
   change mulD S dx dy=some z at h
   unfold mulD at h
   split at h
   · next i j=>
     split at h
     · next hz=>
       cases h
       obtain⟨rfl,rfl⟩:=bothI rfl rfl
       exact op_mulW pins s σ H _ _ v u _ I hv hu ⟨i,j,rfl,rfl,hz,iv _⟩
     · cases h
   · next k hn=>
     split at h
     · next a ha=>
       split at h
       · next hz=>
         cases h
         cases ry
         obtain⟨p,xs,rfl,hp,qx⟩:=ZM rs rx ha
         have l1:=qx.length
         refine op_rep pins s σ H _ _ v u _ I hv hu ⟨p,k,xs,rfl,rfl,hp,by omega,by omega,by rw[l1];exact hz.2.2,fun r hr=>YX rs hr (Zb.flatrep qx _)⟩
       · cases h
     · cases h
   · cases h
 | Sub=>
   cases dx <;> try cases h
   cases dy <;> try cases h
   obtain⟨rfl,rfl⟩:=bothI rfl rfl
   exact op_sub pins s σ H _ _ v u _ I hv hu ⟨_,_,rfl,rfl,iv _⟩
 | BitAnd=>
   cases dx <;> try cases h
   cases dy <;> try cases h
   obtain⟨rfl,rfl⟩:=bothI rfl rfl
   exact op_and pins s σ H _ _ v u _ I hv hu ⟨_,_,rfl,rfl,iv _⟩
 | BitOr=>
   cases dx <;> try cases h
   cases dy <;> try cases h
   obtain⟨rfl,rfl⟩:=bothI rfl rfl
   exact op_or pins s σ H _ _ v u _ I hv hu ⟨_,_,rfl,rfl,iv _⟩
 | FloorDiv=>
   cases dx <;> try cases h
   cases dy <;> try cases h
   next i j=>
   change (if 0<j∧j.natAbs.log2<9000 then some (D.int (i / j)) else none)=some z at h
   split at h
   · next hz=>
     cases h
     obtain⟨rfl,rfl⟩:=bothI rfl rfl
     exact op_fdivW pins s σ H _ _ v u _ I hv hu ⟨_,_,rfl,rfl,hz,iv _⟩
   · cases h
 | Mod=>
   cases dx <;> try cases h
   cases dy <;> try cases h
   next i j=>
   change (if 0<j then some (D.int (i % j)) else none)=some z at h
   split at h
   · next hz=>
     cases h
     obtain⟨rfl,rfl⟩:=bothI rfl rfl
     exact op_mod pins s σ H _ _ v u _ I hv hu ⟨_,_,rfl,rfl,hz,iv _⟩
   · cases h
 | Pow=>
   cases dx <;> try cases h
   cases dy <;> try cases h
   next i j=>
   change (if WS i j=true then some (D.int (i ^ j.toNat)) else none)=some z at h
   split at h
   · next hz=>
     cases h
     obtain⟨rfl,rfl⟩:=bothI rfl rfl
     unfold WS at hz
     simp only[Bool.and_eq_true,decide_eq_true_eq] at hz
     exact op_pow pins s σ H _ _ v u _ I hv hu ⟨_,_,rfl,rfl,⟨hz.1.1,hz.1.2,hz.2⟩,iv _⟩
   · cases h
 | LShift=>
   cases dx <;> try cases h
   cases dy <;> try cases h
   next i j=>
   change (if WS i j=true then some (D.int (i * 2 ^ j.toNat)) else none)=some z at h
   split at h
   · next hz=>
     cases h
     obtain⟨rfl,rfl⟩:=bothI rfl rfl
     unfold WS at hz
     simp only[Bool.and_eq_true,decide_eq_true_eq] at hz
     exact op_shl pins s σ H _ _ v u _ I hv hu ⟨_,_,rfl,rfl,⟨hz.1.1,hz.1.2,hz.2⟩,iv _⟩
   · cases h
 | _=>cases dx <;> first | cases h | (cases dy <;> cases h)
end
end Sw
namespace Sw.Dq
open PySem PySem.Spec SeqAt MeetsSeq
def IsD (hz:Heap)(a:Addr):Prop:=∃o es nz,hz.get? a=some o∧o.cls=.type "dict" ∧o.data=.dict es nz
section
variable {Ar:Around}{s:Shared}{Ex:Value→Shared→Prop}{prog:Program}{w:World}
theorem Yj {a:Addr}{yz:Value}{T:String}{Qz:Value→Shared→Prop}{nm:Str}(sz:Slot "dict" nm "dict.__eq__") (ha:s.TypeIs (.ref a) "dict") (hy:s.TypeIs yz T) (hs:isSubtype (.type T) (.type "dict")=pure false) (hz:Qz .notImplemented s) :
  wpAny (model prog w) Ar (call (.builtin "dict.__eq__") [.ref a,yz]) Qz Ex s:=by
 refine wpAny_call_entry sz ha PySem.F.entry_dict_eq ?_ (PySem.F.args_dict_eq_2 _ _)
 show wpAny _ _ (Builtin.Dict.dictSlotArgs "__eq__" ⟨[.ref a,yz],[]⟩ >>= _) _ _ s
 refine wpAny_bind ?_
 unfold PySem.Builtin.Dict.dictSlotArgs
 refine wpAny_bind (wpAny_notOrdered_dict ha ?_)
 show wpAny _ _ (pure (Value.ref a,yz)) _ _ s
 refine wpAny_pure ?_
 refine wpAny_bind (wpAny_isInstance (T:=T) hy hs ?_)
 simp only[Bool.not_false,if_true]
 refine wpAny_bind (wpAny_rule ?_)
 refine wpAny_bind (wpAny_pure ?_)
 exact wpAny_pure ⟨_,rfl,hz⟩
theorem Uq (bz:Bool)(pL:Addr)(es:Array DictEntry)(nz:Nat)(dz:Option Addr)(sz:Array (Option Value)) :
  Meets (Builtin.«int.__eq__» ⟨[.bool bz,.ref pL],[]⟩) (fun _ R s=>s.heap.get? pL=some { cls:=.type "dict",dict:=dz,data:=.dict es nz,slots:=sz }∧R (.ok (.ret .notImplemented)) s):=
 .of_wp fun prog w Ar R s hz=>by obtain⟨hp,g,d,tk,os⟩:=s;obtain⟨isD1,hz⟩:=hz;wp_walk using AutoSeq1.wpAny_loadPart' isD1,wpAny_load isD1;exact⟨_,rfl,hz⟩
theorem UM (bz:Int)(uz:Tok)(pL:Addr)(es:Array DictEntry)(nz:Nat)(dz:Option Addr)(sz:Array (Option Value)) :
  Meets (Builtin.«int.__eq__» ⟨[.int bz uz,.ref pL],[]⟩) (fun _ R s=>s.heap.get? pL=some { cls:=.type "dict",dict:=dz,data:=.dict es nz,slots:=sz }∧R (.ok (.ret .notImplemented)) s):=
 .of_wp fun prog w Ar R s hz=>by obtain⟨hp,g,d,tk,os⟩:=s;obtain⟨isD1,hz⟩:=hz;wp_walk using AutoSeq1.wpAny_loadPart' isD1,wpAny_load isD1;exact⟨_,rfl,hz⟩
theorem Qf (bz:Str)(uz:Tok)(pL:Addr)(es:Array DictEntry)(nz:Nat)(dz:Option Addr)(sz:Array (Option Value)) :
  Meets (Builtin.«str.__eq__» ⟨[.str bz uz,.ref pL],[]⟩) (fun _ R s=>s.heap.get? pL=some { cls:=.type "dict",dict:=dz,data:=.dict es nz,slots:=sz }∧R (.ok (.ret .notImplemented)) s):=
 .of_wp fun prog w Ar R s hz=>by obtain⟨hp,g,d,tk,os⟩:=s;obtain⟨isD1,hz⟩:=hz;wp_walk using AutoSeq1.wpAny_loadPart' isD1,wpAny_load isD1;exact⟨_,rfl,hz⟩
theorem ZbU (pL bz:Addr)(items:Array Value)(es:Array DictEntry)(nz lenB:Nat)(dz dd2:Option Addr)(sz sl2:Array (Option Value)) :
  Meets (Builtin.«list.__eq__» ⟨[.ref pL,.ref bz],[]⟩) (fun _ R s=>s.heap.get? pL=some { cls:=.type "list",dict:=dz,data:=.seq items nz,slots:=sz }∧s.heap.get? bz=some { cls:=.type "dict",dict:=dd2,data:=.dict es lenB,slots:=sl2 }∧R (.ok (.ret .notImplemented)) s):=
 .of_wp fun prog w Ar R s hz=>by obtain⟨hp,g,d,tk,os⟩:=s;obtain⟨isD1,hb,hz⟩:=hz;have f1:=PySem.F.sub_dict_list;wp_walk using AutoSeq1.wpAny_loadPart' isD1,AutoSeq1.wpAny_loadPart' hb;exact⟨_,rfl,hz⟩
theorem Za6 (pL bz:Addr)(items:Array Value)(es:Array DictEntry)(nz lenB:Nat)(dz dd2:Option Addr)(sz sl2:Array (Option Value)) :
  Meets (Builtin.«tuple.__eq__» ⟨[.ref pL,.ref bz],[]⟩) (fun _ R s=>s.heap.get? pL=some { cls:=.type "tuple",dict:=dz,data:=.seq items nz,slots:=sz }∧s.heap.get? bz=some { cls:=.type "dict",dict:=dd2,data:=.dict es lenB,slots:=sl2 }∧R (.ok (.ret .notImplemented)) s):=
 .of_wp fun prog w Ar R s hz=>by obtain⟨hp,g,d,tk,os⟩:=s;obtain⟨isD1,hb,hz⟩:=hz;have f1:=PySem.F.sub_dict_tuple;wp_walk using AutoSeq1.wpAny_loadPart' isD1,AutoSeq1.wpAny_loadPart' hb;exact⟨_,rfl,hz⟩
theorem U1 {pL:Addr}(isD1:IsD s.heap pL)(rm:Ar.units<cLine):RcAt Ar s (.ref pL) .none false:=fun prog w Ex Qz hz=>by
 obtain⟨⟨cls,dz,data,sz⟩,es,nz,eo,ec,ed⟩:=id isD1
 simp only at ec ed
 subst ec ed
 exact rc_eq_decline_or (k:=false) ⟨_,eo,rfl⟩ rfl (by decide) F.sub_NoneType_dict F.slot_dict_eq F.slot_NoneType_eq_refl
  (fun _ zq=>Yj F.slot_dict_eq ⟨_,eo,rfl⟩ rfl F.sub_NoneType_dict zq)
  (fun _ zq=>call_gives F.slot_NoneType_eq_refl rfl F.entry_NoneType_eq (F.args_NoneType_eq_2 _ _) (NoneType___eq___none_ref_0 pL) zq)
  (fun _ zq=>wpAny_of_eq (rfl:isSame (.ref pL) .none=pure false) zq) (.inr rm) hz
theorem U3 {pL:Addr}(isD1:IsD s.heap pL)(rm:Ar.units<cLine):RcAt Ar s .none (.ref pL) false:=fun prog w Ex Qz hz=>by
 obtain⟨⟨cls,dz,data,sz⟩,es,nz,eo,ec,ed⟩:=id isD1
 simp only at ec ed
 subst ec ed
 exact rc_eq_decline_or (k:=false) rfl ⟨_,eo,rfl⟩ (by decide) F.sub_dict_NoneType F.slot_NoneType_eq F.slot_dict_eq_refl
  (fun _ zq=>call_gives F.slot_NoneType_eq rfl F.entry_NoneType_eq (F.args_NoneType_eq_2 _ _) (NoneType___eq___none_ref_0 pL) zq)
  (fun _ zq=>Yj F.slot_dict_eq_refl ⟨_,eo,rfl⟩ rfl F.sub_NoneType_dict zq)
  (fun _ zq=>wpAny_of_eq (rfl:isSame .none (.ref pL)=pure false) zq) (.inr rm) hz
theorem Zc6 {pL:Addr}(isD1:IsD s.heap pL)(rm:Ar.units<cLine):EqAt Ar s (.ref pL) .none false:=fun prog w Ex Qz hz=>by
 unfold eqBool
 refine wpAny_holding ?_
 refine wpAny_ite_split (fun zab=>absurd (eq_of_beq zab) nofun) (fun _=>?_)
 exact wpAny_bind (U1 isD1 rm prog w Ex _ (wpAny_truthy_bool hz))
theorem Zc8 {pL:Addr}(isD1:IsD s.heap pL)(rm:Ar.units<cLine):EqAt Ar s .none (.ref pL) false:=fun prog w Ex Qz hz=>by
 unfold eqBool
 refine wpAny_holding ?_
 refine wpAny_ite_split (fun zab=>absurd (eq_of_beq zab) nofun) (fun _=>?_)
 exact wpAny_bind (U3 isD1 rm prog w Ex _ (wpAny_truthy_bool hz))
theorem UZ {pL:Addr}(bz:Bool)(isD1:IsD s.heap pL)(rm:Ar.units<cLine):RcAt Ar s (.ref pL) (.bool bz) false:=fun prog w Ex Qz hz=>by
 obtain⟨⟨cls,dz,data,sz⟩,es,nz,eo,ec,ed⟩:=id isD1
 simp only at ec ed
 subst ec ed
 exact rc_eq_decline_or (k:=false) ⟨_,eo,rfl⟩ rfl (by decide) F.sub_bool_dict F.slot_dict_eq F.slot_bool_eq_refl
  (fun _ zq=>Yj F.slot_dict_eq ⟨_,eo,rfl⟩ rfl F.sub_bool_dict zq)
  (fun _ zq=>call_meets F.slot_bool_eq_refl rfl F.entry_int_eq (F.args_int_eq_2 _ _) (Uq bz pL es nz dz sz) ⟨eo,zq⟩)
  (fun _ zq=>wpAny_of_eq (rfl:isSame (.ref pL) (.bool bz)=pure false) zq) (.inr rm) hz
theorem UY {pL:Addr}(bz:Bool)(isD1:IsD s.heap pL)(rm:Ar.units<cLine):RcAt Ar s (.bool bz) (.ref pL) false:=fun prog w Ex Qz hz=>by
 obtain⟨⟨cls,dz,data,sz⟩,es,nz,eo,ec,ed⟩:=id isD1
 simp only at ec ed
 subst ec ed
 exact rc_eq_decline_or (k:=false) rfl ⟨_,eo,rfl⟩ (by decide) F.sub_dict_bool F.slot_bool_eq F.slot_dict_eq_refl
  (fun _ zq=>call_meets F.slot_bool_eq rfl F.entry_int_eq (F.args_int_eq_2 _ _) (Uq bz pL es nz dz sz) ⟨eo,zq⟩)
  (fun _ zq=>Yj F.slot_dict_eq_refl ⟨_,eo,rfl⟩ rfl F.sub_bool_dict zq)
  (fun _ zq=>wpAny_of_eq (rfl:isSame (.bool bz) (.ref pL)=pure false) zq) (.inr rm) hz
theorem Zc4 {pL:Addr}(bz:Bool)(isD1:IsD s.heap pL)(rm:Ar.units<cLine):EqAt Ar s (.ref pL) (.bool bz) false:=fun prog w Ex Qz hz=>by
 unfold eqBool
 refine wpAny_holding ?_
 refine wpAny_ite_split (fun zab=>absurd (eq_of_beq zab) nofun) (fun _=>?_)
 exact wpAny_bind (UZ bz isD1 rm prog w Ex _ (wpAny_truthy_bool hz))
theorem Zc3 {pL:Addr}(bz:Bool)(isD1:IsD s.heap pL)(rm:Ar.units<cLine):EqAt Ar s (.bool bz) (.ref pL) false:=fun prog w Ex Qz hz=>by
 unfold eqBool
 refine wpAny_holding ?_
 refine wpAny_ite_split (fun zab=>absurd (eq_of_beq zab) nofun) (fun _=>?_)
 exact wpAny_bind (UY bz isD1 rm prog w Ex _ (wpAny_truthy_bool hz))
theorem QU {pL:Addr}(bz:Int)(uz:Tok)(isD1:IsD s.heap pL)(rm:Ar.units<cLine):RcAt Ar s (.ref pL) (.int bz uz) false:=fun prog w Ex Qz hz=>by
 obtain⟨⟨cls,dz,data,sz⟩,es,nz,eo,ec,ed⟩:=id isD1
 simp only at ec ed
 subst ec ed
 exact rc_eq_decline_or (k:=false) ⟨_,eo,rfl⟩ (typeIs_int s bz uz) (by decide) F.sub_int_dict F.slot_dict_eq F.slot_int_eq_refl
  (fun _ zq=>Yj F.slot_dict_eq ⟨_,eo,rfl⟩ (typeIs_int s bz uz) F.sub_int_dict zq)
  (fun _ zq=>call_meets F.slot_int_eq_refl (typeIs_int s bz uz) F.entry_int_eq (F.args_int_eq_2 _ _) (UM bz uz pL es nz dz sz) ⟨eo,zq⟩)
  (fun _ zq=>wpAny_of_eq (rfl:isSame (.ref pL) (.int bz uz)=pure false) zq) (.inr rm) hz
theorem QX {pL:Addr}(bz:Int)(uz:Tok)(isD1:IsD s.heap pL)(rm:Ar.units<cLine):RcAt Ar s (.int bz uz) (.ref pL) false:=fun prog w Ex Qz hz=>by
 obtain⟨⟨cls,dz,data,sz⟩,es,nz,eo,ec,ed⟩:=id isD1
 simp only at ec ed
 subst ec ed
 exact rc_eq_decline_or (k:=false) (typeIs_int s bz uz) ⟨_,eo,rfl⟩ (by decide) F.sub_dict_int F.slot_int_eq F.slot_dict_eq_refl
  (fun _ zq=>call_meets F.slot_int_eq (typeIs_int s bz uz) F.entry_int_eq (F.args_int_eq_2 _ _) (UM bz uz pL es nz dz sz) ⟨eo,zq⟩)
  (fun _ zq=>Yj F.slot_dict_eq_refl ⟨_,eo,rfl⟩ (typeIs_int s bz uz) F.sub_int_dict zq)
  (fun _ zq=>wpAny_of_eq (rfl:isSame (.int bz uz) (.ref pL)=pure false) zq) (.inr rm) hz
theorem Zeo {pL:Addr}(bz:Int)(uz:Tok)(isD1:IsD s.heap pL)(rm:Ar.units<cLine):EqAt Ar s (.ref pL) (.int bz uz) false:=fun prog w Ex Qz hz=>by
 unfold eqBool
 refine wpAny_holding ?_
 refine wpAny_ite_split (fun zab=>absurd (eq_of_beq zab) nofun) (fun _=>?_)
 exact wpAny_bind (QU bz uz isD1 rm prog w Ex _ (wpAny_truthy_bool hz))
theorem Zeq {pL:Addr}(bz:Int)(uz:Tok)(isD1:IsD s.heap pL)(rm:Ar.units<cLine):EqAt Ar s (.int bz uz) (.ref pL) false:=fun prog w Ex Qz hz=>by
 unfold eqBool
 refine wpAny_holding ?_
 refine wpAny_ite_split (fun zab=>absurd (eq_of_beq zab) nofun) (fun _=>?_)
 exact wpAny_bind (QX bz uz isD1 rm prog w Ex _ (wpAny_truthy_bool hz))
theorem QV {pL:Addr}(bz:Str)(uz:Tok)(isD1:IsD s.heap pL)(rm:Ar.units<cLine):RcAt Ar s (.ref pL) (.str bz uz) false:=fun prog w Ex Qz hz=>by
 obtain⟨⟨cls,dz,data,sz⟩,es,nz,eo,ec,ed⟩:=id isD1
 simp only at ec ed
 subst ec ed
 exact rc_eq_decline_or (k:=false) ⟨_,eo,rfl⟩ (typeIs_str s bz uz) (by decide) F.sub_str_dict F.slot_dict_eq F.slot_str_eq_refl
  (fun _ zq=>Yj F.slot_dict_eq ⟨_,eo,rfl⟩ (typeIs_str s bz uz) F.sub_str_dict zq)
  (fun _ zq=>call_meets F.slot_str_eq_refl (typeIs_str s bz uz) F.entry_str_eq (F.args_str_eq_2 _ _) (Qf bz uz pL es nz dz sz) ⟨eo,zq⟩)
  (fun _ zq=>wpAny_of_eq (rfl:isSame (.ref pL) (.str bz uz)=pure false) zq) (.inr rm) hz
theorem QY {pL:Addr}(bz:Str)(uz:Tok)(isD1:IsD s.heap pL)(rm:Ar.units<cLine):RcAt Ar s (.str bz uz) (.ref pL) false:=fun prog w Ex Qz hz=>by
 obtain⟨⟨cls,dz,data,sz⟩,es,nz,eo,ec,ed⟩:=id isD1
 simp only at ec ed
 subst ec ed
 exact rc_eq_decline_or (k:=false) (typeIs_str s bz uz) ⟨_,eo,rfl⟩ (by decide) F.sub_dict_str F.slot_str_eq F.slot_dict_eq_refl
  (fun _ zq=>call_meets F.slot_str_eq (typeIs_str s bz uz) F.entry_str_eq (F.args_str_eq_2 _ _) (Qf bz uz pL es nz dz sz) ⟨eo,zq⟩)
  (fun _ zq=>Yj F.slot_dict_eq_refl ⟨_,eo,rfl⟩ (typeIs_str s bz uz) F.sub_str_dict zq)
  (fun _ zq=>wpAny_of_eq (rfl:isSame (.str bz uz) (.ref pL)=pure false) zq) (.inr rm) hz
theorem Zep {pL:Addr}(bz:Str)(uz:Tok)(isD1:IsD s.heap pL)(rm:Ar.units<cLine):EqAt Ar s (.ref pL) (.str bz uz) false:=fun prog w Ex Qz hz=>by
 unfold eqBool
 refine wpAny_holding ?_
 refine wpAny_ite_split (fun zab=>absurd (eq_of_beq zab) nofun) (fun _=>?_)
 exact wpAny_bind (QV bz uz isD1 rm prog w Ex _ (wpAny_truthy_bool hz))
theorem Zer {pL:Addr}(bz:Str)(uz:Tok)(isD1:IsD s.heap pL)(rm:Ar.units<cLine):EqAt Ar s (.str bz uz) (.ref pL) false:=fun prog w Ex Qz hz=>by
 unfold eqBool
 refine wpAny_holding ?_
 refine wpAny_ite_split (fun zab=>absurd (eq_of_beq zab) nofun) (fun _=>?_)
 exact wpAny_bind (QY bz uz isD1 rm prog w Ex _ (wpAny_truthy_bool hz))
theorem YR {hz:Heap}{pL bz:Addr}{items:Array Value}(isD1:hz.IsList pL items)(hb:IsD hz bz):pL≠bz:=fun e=>by
 subst e
 obtain⟨o,eo,ec,_⟩:=isD1
 obtain⟨o2,_,_,ho2,hc2,_⟩:=hb
 rw[eo] at ho2
 cases ho2
 rw[ec] at hc2
 exact absurd hc2 (by simp)
theorem U2 {pL bz:Addr}{items:Array Value}(isD1:s.heap.IsList pL items)(hb:IsD s.heap bz)(rm:Ar.units<cLine):RcAt Ar s (.ref pL) (.ref bz) false:=fun prog w Ex Qz hz=>by
 have hne:=YR isD1 hb
 obtain⟨⟨cls,dz,data,sz⟩,eo,ec,nz,ed⟩:=id isD1
 obtain⟨⟨cls2,dd2,data2,sl2⟩,es,lenB,ho2,hc2,hd2⟩:=id hb
 simp only at ec ed hc2 hd2
 subst ec ed hc2 hd2
 exact rc_eq_decline_or (k:=false) ⟨_,eo,rfl⟩ ⟨_,ho2,rfl⟩ (by decide) F.sub_dict_list F.slot_list_eq F.slot_dict_eq_refl
  (fun _ zq=>call_meets F.slot_list_eq ⟨_,eo,rfl⟩ F.entry_list_eq (F.args_list_eq_2 _ _) (ZbU pL bz items es nz lenB dz dd2 sz sl2) ⟨eo,ho2,zq⟩)
  (fun _ zq=>Yj F.slot_dict_eq_refl ⟨_,ho2,rfl⟩ (T:= "list") ⟨_,eo,rfl⟩ F.sub_list_dict zq)
  (fun _ zq=>wpAny_isSame_ref_other hne eo ho2 (by simp) zq) (.inr rm) hz
theorem U0 {pL bz:Addr}{items:Array Value}(isD1:s.heap.IsList pL items)(hb:IsD s.heap bz)(rm:Ar.units<cLine):RcAt Ar s (.ref bz) (.ref pL) false:=fun prog w Ex Qz hz=>by
 have hne:=(YR isD1 hb).symm
 obtain⟨⟨cls,dz,data,sz⟩,eo,ec,nz,ed⟩:=id isD1
 obtain⟨⟨cls2,dd2,data2,sl2⟩,es,lenB,ho2,hc2,hd2⟩:=id hb
 simp only at ec ed hc2 hd2
 subst ec ed hc2 hd2
 exact rc_eq_decline_or (k:=false) ⟨_,ho2,rfl⟩ ⟨_,eo,rfl⟩ (by decide) F.sub_list_dict F.slot_dict_eq F.slot_list_eq_refl
  (fun _ zq=>Yj F.slot_dict_eq ⟨_,ho2,rfl⟩ (T:= "list") ⟨_,eo,rfl⟩ F.sub_list_dict zq)
  (fun _ zq=>call_meets F.slot_list_eq_refl ⟨_,eo,rfl⟩ F.entry_list_eq (F.args_list_eq_2 _ _) (ZbU pL bz items es nz lenB dz dd2 sz sl2) ⟨eo,ho2,zq⟩)
  (fun _ zq=>wpAny_isSame_ref_other hne ho2 eo (by simp) zq) (.inr rm) hz
theorem Zc7 {pL bz:Addr}{items:Array Value}(isD1:s.heap.IsList pL items)(hb:IsD s.heap bz)(rm:Ar.units<cLine):EqAt Ar s (.ref pL) (.ref bz) false:=.of_refs (YR isD1 hb) (U2 isD1 hb rm)
theorem Zc5 {pL bz:Addr}{items:Array Value}(isD1:s.heap.IsList pL items)(hb:IsD s.heap bz)(rm:Ar.units<cLine):EqAt Ar s (.ref bz) (.ref pL) false:=.of_refs (YR isD1 hb).symm (U0 isD1 hb rm)
theorem YD {hz:Heap}{pL bz:Addr}{items:Array Value}(isD1:hz.IsTuple pL items)(hb:IsD hz bz):pL≠bz:=fun e=>by
 subst e
 obtain⟨o,eo,ec,_⟩:=isD1
 obtain⟨o2,_,_,ho2,hc2,_⟩:=hb
 rw[eo] at ho2
 cases ho2
 rw[ec] at hc2
 exact absurd hc2 (by simp)
theorem Ut {pL bz:Addr}{items:Array Value}(isD1:s.heap.IsTuple pL items)(hb:IsD s.heap bz)(rm:Ar.units<cLine):RcAt Ar s (.ref pL) (.ref bz) false:=fun prog w Ex Qz hz=>by
 have hne:=YD isD1 hb
 obtain⟨⟨cls,dz,data,sz⟩,eo,ec,nz,ed⟩:=id isD1
 obtain⟨⟨cls2,dd2,data2,sl2⟩,es,lenB,ho2,hc2,hd2⟩:=id hb
 simp only at ec ed hc2 hd2
 subst ec ed hc2 hd2
 exact rc_eq_decline_or (k:=false) ⟨_,eo,rfl⟩ ⟨_,ho2,rfl⟩ (by decide) F.sub_dict_tuple F.slot_tuple_eq F.slot_dict_eq_refl
  (fun _ zq=>call_meets F.slot_tuple_eq ⟨_,eo,rfl⟩ F.entry_tuple_eq (F.args_tuple_eq_2 _ _) (Za6 pL bz items es nz lenB dz dd2 sz sl2) ⟨eo,ho2,zq⟩)
  (fun _ zq=>Yj F.slot_dict_eq_refl ⟨_,ho2,rfl⟩ (T:= "tuple") ⟨_,eo,rfl⟩ F.sub_tuple_dict zq)
  (fun _ zq=>wpAny_isSame_ref_other' hne eo ho2 (by simp) zq) (.inr rm) hz
theorem Us {pL bz:Addr}{items:Array Value}(isD1:s.heap.IsTuple pL items)(hb:IsD s.heap bz)(rm:Ar.units<cLine):RcAt Ar s (.ref bz) (.ref pL) false:=fun prog w Ex Qz hz=>by
 have hne:=(YD isD1 hb).symm
 obtain⟨⟨cls,dz,data,sz⟩,eo,ec,nz,ed⟩:=id isD1
 obtain⟨⟨cls2,dd2,data2,sl2⟩,es,lenB,ho2,hc2,hd2⟩:=id hb
 simp only at ec ed hc2 hd2
 subst ec ed hc2 hd2
 exact rc_eq_decline_or (k:=false) ⟨_,ho2,rfl⟩ ⟨_,eo,rfl⟩ (by decide) F.sub_tuple_dict F.slot_dict_eq F.slot_tuple_eq_refl
  (fun _ zq=>Yj F.slot_dict_eq ⟨_,ho2,rfl⟩ (T:= "tuple") ⟨_,eo,rfl⟩ F.sub_tuple_dict zq)
  (fun _ zq=>call_meets F.slot_tuple_eq_refl ⟨_,eo,rfl⟩ F.entry_tuple_eq (F.args_tuple_eq_2 _ _) (Za6 pL bz items es nz lenB dz dd2 sz sl2) ⟨eo,ho2,zq⟩)
  (fun _ zq=>wpAny_isSame_ref_other hne ho2 eo (by simp) zq) (.inr rm) hz
theorem Zcm {pL bz:Addr}{items:Array Value}(isD1:s.heap.IsTuple pL items)(hb:IsD s.heap bz)(rm:Ar.units<cLine):EqAt Ar s (.ref pL) (.ref bz) false:=.of_refs (YD isD1 hb) (Ut isD1 hb rm)
theorem Zcl {pL bz:Addr}{items:Array Value}(isD1:s.heap.IsTuple pL items)(hb:IsD s.heap bz)(rm:Ar.units<cLine):EqAt Ar s (.ref bz) (.ref pL) false:=.of_refs (YD isD1 hb).symm (Us isD1 hb rm)
end
section
variable {Ar:Around}{s:Shared}{Ex:Value→Shared→Prop}{prog:Program}{w:World}
theorem Yk {a:Addr}{yz:Value}{T:String}{Qz:Value→Shared→Prop}{nm:Str}(sz:Slot "dict" nm "dict.__ne__") (ha:s.TypeIs (.ref a) "dict") (hy:s.TypeIs yz T) (hs:isSubtype (.type T) (.type "dict")=pure false) (hz:Qz .notImplemented s) :
  wpAny (model prog w) Ar (call (.builtin "dict.__ne__") [.ref a,yz]) Qz Ex s:=by
 refine wpAny_call_entry sz ha PySem.F.entry_dict_ne ?_ (PySem.F.args_dict_ne_2 _ _)
 show wpAny _ _ (Builtin.Dict.dictSlotArgs "__ne__" ⟨[.ref a,yz],[]⟩ >>= _) _ _ s
 refine wpAny_bind ?_
 unfold PySem.Builtin.Dict.dictSlotArgs
 refine wpAny_bind (wpAny_notOrdered_dict ha ?_)
 show wpAny _ _ (pure (Value.ref a,yz)) _ _ s
 refine wpAny_pure ?_
 refine wpAny_bind (wpAny_isInstance (T:=T) hy hs ?_)
 simp only[Bool.not_false,if_true]
 refine wpAny_bind (wpAny_rule ?_)
 refine wpAny_bind (wpAny_pure ?_)
 exact wpAny_pure ⟨_,rfl,hz⟩
theorem Vt (bz:Bool)(pL:Addr)(es:Array DictEntry)(nz:Nat)(dz:Option Addr)(sz:Array (Option Value)) :
  Meets (Builtin.«int.__ne__» ⟨[.bool bz,.ref pL],[]⟩) (fun _ R s=>s.heap.get? pL=some { cls:=.type "dict",dict:=dz,data:=.dict es nz,slots:=sz }∧R (.ok (.ret .notImplemented)) s):=
 .of_wp fun prog w Ar R s hz=>by obtain⟨hp,g,d,tk,os⟩:=s;obtain⟨isD1,hz⟩:=hz;wp_walk using AutoSeq1.wpAny_loadPart' isD1,wpAny_load isD1;exact⟨_,rfl,hz⟩
theorem Ur (bz:Int)(uz:Tok)(pL:Addr)(es:Array DictEntry)(nz:Nat)(dz:Option Addr)(sz:Array (Option Value)) :
  Meets (Builtin.«int.__ne__» ⟨[.int bz uz,.ref pL],[]⟩) (fun _ R s=>s.heap.get? pL=some { cls:=.type "dict",dict:=dz,data:=.dict es nz,slots:=sz }∧R (.ok (.ret .notImplemented)) s):=
 .of_wp fun prog w Ar R s hz=>by obtain⟨hp,g,d,tk,os⟩:=s;obtain⟨isD1,hz⟩:=hz;wp_walk using AutoSeq1.wpAny_loadPart' isD1,wpAny_load isD1;exact⟨_,rfl,hz⟩
theorem Uu (bz:Str)(uz:Tok)(pL:Addr)(es:Array DictEntry)(nz:Nat)(dz:Option Addr)(sz:Array (Option Value)) :
  Meets (Builtin.«str.__ne__» ⟨[.str bz uz,.ref pL],[]⟩) (fun _ R s=>s.heap.get? pL=some { cls:=.type "dict",dict:=dz,data:=.dict es nz,slots:=sz }∧R (.ok (.ret .notImplemented)) s):=
 .of_wp fun prog w Ar R s hz=>by obtain⟨hp,g,d,tk,os⟩:=s;obtain⟨isD1,hz⟩:=hz;wp_walk using AutoSeq1.wpAny_loadPart' isD1,wpAny_load isD1;exact⟨_,rfl,hz⟩
theorem ZaN (pL bz:Addr)(items:Array Value)(es:Array DictEntry)(nz lenB:Nat)(dz dd2:Option Addr)(sz sl2:Array (Option Value)) :
  Meets (Builtin.«list.__ne__» ⟨[.ref pL,.ref bz],[]⟩) (fun _ R s=>s.heap.get? pL=some { cls:=.type "list",dict:=dz,data:=.seq items nz,slots:=sz }∧s.heap.get? bz=some { cls:=.type "dict",dict:=dd2,data:=.dict es lenB,slots:=sl2 }∧R (.ok (.ret .notImplemented)) s):=
 .of_wp fun prog w Ar R s hz=>by obtain⟨hp,g,d,tk,os⟩:=s;obtain⟨isD1,hb,hz⟩:=hz;have f1:=PySem.F.sub_dict_list;wp_walk using AutoSeq1.wpAny_loadPart' isD1,AutoSeq1.wpAny_loadPart' hb;exact⟨_,rfl,hz⟩
theorem Q3 (pL bz:Addr)(items:Array Value)(es:Array DictEntry)(nz lenB:Nat)(dz dd2:Option Addr)(sz sl2:Array (Option Value)) :
  Meets (Builtin.«tuple.__ne__» ⟨[.ref pL,.ref bz],[]⟩) (fun _ R s=>s.heap.get? pL=some { cls:=.type "tuple",dict:=dz,data:=.seq items nz,slots:=sz }∧s.heap.get? bz=some { cls:=.type "dict",dict:=dd2,data:=.dict es lenB,slots:=sl2 }∧R (.ok (.ret .notImplemented)) s):=
 .of_wp fun prog w Ar R s hz=>by obtain⟨hp,g,d,tk,os⟩:=s;obtain⟨isD1,hb,hz⟩:=hz;have f1:=PySem.F.sub_dict_tuple;wp_walk using AutoSeq1.wpAny_loadPart' isD1,AutoSeq1.wpAny_loadPart' hb;exact⟨_,rfl,hz⟩
theorem ZdL {pL:Addr}(isD1:IsD s.heap pL)(rm:Ar.units<cLine):RcNeAt Ar s (.ref pL) .none true:=fun prog w Ex Qz hz=>by
 obtain⟨⟨cls,dz,data,sz⟩,es,nz,eo,ec,ed⟩:=id isD1
 simp only at ec ed
 subst ec ed
 exact rc_ne_decline_or (k:=false) ⟨_,eo,rfl⟩ rfl (by decide) F.sub_NoneType_dict F.slot_dict_ne F.slot_NoneType_ne_refl
  (fun _ zq=>Yk F.slot_dict_ne ⟨_,eo,rfl⟩ rfl F.sub_NoneType_dict zq)
  (fun _ zq=>call_gives F.slot_NoneType_ne_refl rfl F.entry_NoneType_ne (F.args_NoneType_ne_2 _ _) (NoneType___ne___none_ref_0 pL) zq)
  (fun _ zq=>wpAny_of_eq (rfl:isSame (.ref pL) .none=pure false) zq) (.inr rm) hz
theorem ZdN {pL:Addr}(isD1:IsD s.heap pL)(rm:Ar.units<cLine):RcNeAt Ar s .none (.ref pL) true:=fun prog w Ex Qz hz=>by
 obtain⟨⟨cls,dz,data,sz⟩,es,nz,eo,ec,ed⟩:=id isD1
 simp only at ec ed
 subst ec ed
 exact rc_ne_decline_or (k:=false) rfl ⟨_,eo,rfl⟩ (by decide) F.sub_dict_NoneType F.slot_NoneType_ne F.slot_dict_ne_refl
  (fun _ zq=>call_gives F.slot_NoneType_ne rfl F.entry_NoneType_ne (F.args_NoneType_ne_2 _ _) (NoneType___ne___none_ref_0 pL) zq)
  (fun _ zq=>Yk F.slot_dict_ne_refl ⟨_,eo,rfl⟩ rfl F.sub_NoneType_dict zq)
  (fun _ zq=>wpAny_of_eq (rfl:isSame .none (.ref pL)=pure false) zq) (.inr rm) hz
theorem ZdJ {pL:Addr}(bz:Bool)(isD1:IsD s.heap pL)(rm:Ar.units<cLine):RcNeAt Ar s (.ref pL) (.bool bz) true:=fun prog w Ex Qz hz=>by
 obtain⟨⟨cls,dz,data,sz⟩,es,nz,eo,ec,ed⟩:=id isD1
 simp only at ec ed
 subst ec ed
 exact rc_ne_decline_or (k:=false) ⟨_,eo,rfl⟩ rfl (by decide) F.sub_bool_dict F.slot_dict_ne F.slot_bool_ne_refl
  (fun _ zq=>Yk F.slot_dict_ne ⟨_,eo,rfl⟩ rfl F.sub_bool_dict zq)
  (fun _ zq=>call_meets F.slot_bool_ne_refl rfl F.entry_int_ne (F.args_int_ne_2 _ _) (Vt bz pL es nz dz sz) ⟨eo,zq⟩)
  (fun _ zq=>wpAny_of_eq (rfl:isSame (.ref pL) (.bool bz)=pure false) zq) (.inr rm) hz
theorem ZdI {pL:Addr}(bz:Bool)(isD1:IsD s.heap pL)(rm:Ar.units<cLine):RcNeAt Ar s (.bool bz) (.ref pL) true:=fun prog w Ex Qz hz=>by
 obtain⟨⟨cls,dz,data,sz⟩,es,nz,eo,ec,ed⟩:=id isD1
 simp only at ec ed
 subst ec ed
 exact rc_ne_decline_or (k:=false) rfl ⟨_,eo,rfl⟩ (by decide) F.sub_dict_bool F.slot_bool_ne F.slot_dict_ne_refl
  (fun _ zq=>call_meets F.slot_bool_ne rfl F.entry_int_ne (F.args_int_ne_2 _ _) (Vt bz pL es nz dz sz) ⟨eo,zq⟩)
  (fun _ zq=>Yk F.slot_dict_ne_refl ⟨_,eo,rfl⟩ rfl F.sub_bool_dict zq)
  (fun _ zq=>wpAny_of_eq (rfl:isSame (.bool bz) (.ref pL)=pure false) zq) (.inr rm) hz
theorem ZeA {pL:Addr}(bz:Int)(uz:Tok)(isD1:IsD s.heap pL)(rm:Ar.units<cLine):RcNeAt Ar s (.ref pL) (.int bz uz) true:=fun prog w Ex Qz hz=>by
 obtain⟨⟨cls,dz,data,sz⟩,es,nz,eo,ec,ed⟩:=id isD1
 simp only at ec ed
 subst ec ed
 exact rc_ne_decline_or (k:=false) ⟨_,eo,rfl⟩ (typeIs_int s bz uz) (by decide) F.sub_int_dict F.slot_dict_ne F.slot_int_ne_refl
  (fun _ zq=>Yk F.slot_dict_ne ⟨_,eo,rfl⟩ (typeIs_int s bz uz) F.sub_int_dict zq)
  (fun _ zq=>call_meets F.slot_int_ne_refl (typeIs_int s bz uz) F.entry_int_ne (F.args_int_ne_2 _ _) (Ur bz uz pL es nz dz sz) ⟨eo,zq⟩)
  (fun _ zq=>wpAny_of_eq (rfl:isSame (.ref pL) (.int bz uz)=pure false) zq) (.inr rm) hz
theorem ZeC {pL:Addr}(bz:Int)(uz:Tok)(isD1:IsD s.heap pL)(rm:Ar.units<cLine):RcNeAt Ar s (.int bz uz) (.ref pL) true:=fun prog w Ex Qz hz=>by
 obtain⟨⟨cls,dz,data,sz⟩,es,nz,eo,ec,ed⟩:=id isD1
 simp only at ec ed
 subst ec ed
 exact rc_ne_decline_or (k:=false) (typeIs_int s bz uz) ⟨_,eo,rfl⟩ (by decide) F.sub_dict_int F.slot_int_ne F.slot_dict_ne_refl
  (fun _ zq=>call_meets F.slot_int_ne (typeIs_int s bz uz) F.entry_int_ne (F.args_int_ne_2 _ _) (Ur bz uz pL es nz dz sz) ⟨eo,zq⟩)
  (fun _ zq=>Yk F.slot_dict_ne_refl ⟨_,eo,rfl⟩ (typeIs_int s bz uz) F.sub_int_dict zq)
  (fun _ zq=>wpAny_of_eq (rfl:isSame (.int bz uz) (.ref pL)=pure false) zq) (.inr rm) hz
theorem ZeB {pL:Addr}(bz:Str)(uz:Tok)(isD1:IsD s.heap pL)(rm:Ar.units<cLine):RcNeAt Ar s (.ref pL) (.str bz uz) true:=fun prog w Ex Qz hz=>by
 obtain⟨⟨cls,dz,data,sz⟩,es,nz,eo,ec,ed⟩:=id isD1
 simp only at ec ed
 subst ec ed
 exact rc_ne_decline_or (k:=false) ⟨_,eo,rfl⟩ (typeIs_str s bz uz) (by decide) F.sub_str_dict F.slot_dict_ne F.slot_str_ne_refl
  (fun _ zq=>Yk F.slot_dict_ne ⟨_,eo,rfl⟩ (typeIs_str s bz uz) F.sub_str_dict zq)
  (fun _ zq=>call_meets F.slot_str_ne_refl (typeIs_str s bz uz) F.entry_str_ne (F.args_str_ne_2 _ _) (Uu bz uz pL es nz dz sz) ⟨eo,zq⟩)
  (fun _ zq=>wpAny_of_eq (rfl:isSame (.ref pL) (.str bz uz)=pure false) zq) (.inr rm) hz
theorem ZeD {pL:Addr}(bz:Str)(uz:Tok)(isD1:IsD s.heap pL)(rm:Ar.units<cLine):RcNeAt Ar s (.str bz uz) (.ref pL) true:=fun prog w Ex Qz hz=>by
 obtain⟨⟨cls,dz,data,sz⟩,es,nz,eo,ec,ed⟩:=id isD1
 simp only at ec ed
 subst ec ed
 exact rc_ne_decline_or (k:=false) (typeIs_str s bz uz) ⟨_,eo,rfl⟩ (by decide) F.sub_dict_str F.slot_str_ne F.slot_dict_ne_refl
  (fun _ zq=>call_meets F.slot_str_ne (typeIs_str s bz uz) F.entry_str_ne (F.args_str_ne_2 _ _) (Uu bz uz pL es nz dz sz) ⟨eo,zq⟩)
  (fun _ zq=>Yk F.slot_dict_ne_refl ⟨_,eo,rfl⟩ (typeIs_str s bz uz) F.sub_str_dict zq)
  (fun _ zq=>wpAny_of_eq (rfl:isSame (.str bz uz) (.ref pL)=pure false) zq) (.inr rm) hz
theorem ZdM {pL bz:Addr}{items:Array Value}(isD1:s.heap.IsList pL items)(hb:IsD s.heap bz)(rm:Ar.units<cLine):RcNeAt Ar s (.ref pL) (.ref bz) true:=fun prog w Ex Qz hz=>by
 have hne:=YR isD1 hb
 obtain⟨⟨cls,dz,data,sz⟩,eo,ec,nz,ed⟩:=id isD1
 obtain⟨⟨cls2,dd2,data2,sl2⟩,es,lenB,ho2,hc2,hd2⟩:=id hb
 simp only at ec ed hc2 hd2
 subst ec ed hc2 hd2
 exact rc_ne_decline_or (k:=false) ⟨_,eo,rfl⟩ ⟨_,ho2,rfl⟩ (by decide) F.sub_dict_list F.slot_list_ne F.slot_dict_ne_refl
  (fun _ zq=>call_meets F.slot_list_ne ⟨_,eo,rfl⟩ F.entry_list_ne (F.args_list_ne_2 _ _) (ZaN pL bz items es nz lenB dz dd2 sz sl2) ⟨eo,ho2,zq⟩)
  (fun _ zq=>Yk F.slot_dict_ne_refl ⟨_,ho2,rfl⟩ (T:= "list") ⟨_,eo,rfl⟩ F.sub_list_dict zq)
  (fun _ zq=>wpAny_isSame_ref_other hne eo ho2 (by simp) zq) (.inr rm) hz
theorem ZdK {pL bz:Addr}{items:Array Value}(isD1:s.heap.IsList pL items)(hb:IsD s.heap bz)(rm:Ar.units<cLine):RcNeAt Ar s (.ref bz) (.ref pL) true:=fun prog w Ex Qz hz=>by
 have hne:=(YR isD1 hb).symm
 obtain⟨⟨cls,dz,data,sz⟩,eo,ec,nz,ed⟩:=id isD1
 obtain⟨⟨cls2,dd2,data2,sl2⟩,es,lenB,ho2,hc2,hd2⟩:=id hb
 simp only at ec ed hc2 hd2
 subst ec ed hc2 hd2
 exact rc_ne_decline_or (k:=false) ⟨_,ho2,rfl⟩ ⟨_,eo,rfl⟩ (by decide) F.sub_list_dict F.slot_dict_ne F.slot_list_ne_refl
  (fun _ zq=>Yk F.slot_dict_ne ⟨_,ho2,rfl⟩ (T:= "list") ⟨_,eo,rfl⟩ F.sub_list_dict zq)
  (fun _ zq=>call_meets F.slot_list_ne_refl ⟨_,eo,rfl⟩ F.entry_list_ne (F.args_list_ne_2 _ _) (ZaN pL bz items es nz lenB dz dd2 sz sl2) ⟨eo,ho2,zq⟩)
  (fun _ zq=>wpAny_isSame_ref_other hne ho2 eo (by simp) zq) (.inr rm) hz
theorem Zcr {pL bz:Addr}{items:Array Value}(isD1:s.heap.IsTuple pL items)(hb:IsD s.heap bz)(rm:Ar.units<cLine):RcNeAt Ar s (.ref pL) (.ref bz) true:=fun prog w Ex Qz hz=>by
 have hne:=YD isD1 hb
 obtain⟨⟨cls,dz,data,sz⟩,eo,ec,nz,ed⟩:=id isD1
 obtain⟨⟨cls2,dd2,data2,sl2⟩,es,lenB,ho2,hc2,hd2⟩:=id hb
 simp only at ec ed hc2 hd2
 subst ec ed hc2 hd2
 exact rc_ne_decline_or (k:=false) ⟨_,eo,rfl⟩ ⟨_,ho2,rfl⟩ (by decide) F.sub_dict_tuple F.slot_tuple_ne F.slot_dict_ne_refl
  (fun _ zq=>call_meets F.slot_tuple_ne ⟨_,eo,rfl⟩ F.entry_tuple_ne (F.args_tuple_ne_2 _ _) (Q3 pL bz items es nz lenB dz dd2 sz sl2) ⟨eo,ho2,zq⟩)
  (fun _ zq=>Yk F.slot_dict_ne_refl ⟨_,ho2,rfl⟩ (T:= "tuple") ⟨_,eo,rfl⟩ F.sub_tuple_dict zq)
  (fun _ zq=>wpAny_isSame_ref_other' hne eo ho2 (by simp) zq) (.inr rm) hz
theorem Zcq {pL bz:Addr}{items:Array Value}(isD1:s.heap.IsTuple pL items)(hb:IsD s.heap bz)(rm:Ar.units<cLine):RcNeAt Ar s (.ref bz) (.ref pL) true:=fun prog w Ex Qz hz=>by
 have hne:=(YD isD1 hb).symm
 obtain⟨⟨cls,dz,data,sz⟩,eo,ec,nz,ed⟩:=id isD1
 obtain⟨⟨cls2,dd2,data2,sl2⟩,es,lenB,ho2,hc2,hd2⟩:=id hb
 simp only at ec ed hc2 hd2
 subst ec ed hc2 hd2
 exact rc_ne_decline_or (k:=false) ⟨_,ho2,rfl⟩ ⟨_,eo,rfl⟩ (by decide) F.sub_tuple_dict F.slot_dict_ne F.slot_tuple_ne_refl
  (fun _ zq=>Yk F.slot_dict_ne ⟨_,ho2,rfl⟩ (T:= "tuple") ⟨_,eo,rfl⟩ F.sub_tuple_dict zq)
  (fun _ zq=>call_meets F.slot_tuple_ne_refl ⟨_,eo,rfl⟩ F.entry_tuple_ne (F.args_tuple_ne_2 _ _) (Q3 pL bz items es nz lenB dz dd2 sz sl2) ⟨eo,ho2,zq⟩)
  (fun _ zq=>wpAny_isSame_ref_other hne ho2 eo (by simp) zq) (.inr rm) hz
end
theorem VX {kvs:List (PyData×PyData)}{d:PyData}:PyData.eqv (.dict kvs) d=false:=by cases d <;> rfl
theorem Zfm {hz:Heap}{v:Value}{da db:PyData}{as bs:List Addr}(rd1:Reads hz v da as)(rd2:Reads hz v db bs)(hm:da.plain=true∨db.plain=true)(hn:¬(da.plain=true∧db.plain=true)):False:=by
 rcases hm with hm | hm
 · have:=plain_unique da db v as bs hm rd1 rd2
   subst this
   exact hn ⟨hm,hm⟩
 · have:=plain_unique db da v bs as hm rd2 rd1
   subst this
   exact hn ⟨hm,hm⟩
mutual
theorem Zc2:∀(da db:PyData)(Ar:Around)(s:Shared)(a bz:Value)(as bs:List Addr),Reads s.heap a da as→Reads s.heap bz db bs→(da.plain=true∨db.plain=true)→Ar.units+min da.depth db.depth<cLine→EqAt Ar s a bz (PyData.eqv da db)
 | .none,db,Ar,s,_,_,_,_,rd1,rd2,hm,rm=>by
   cases rd1 with
   | none=>
     cases rd2 with
     | none=>exact EqAt.same _
     | bool yz=>exact EqAt.none_bool yz
     | int yz uz=>exact EqAt.none_int yz uz
     | str yz uz=>exact EqAt.none_str yz uz
     | list u1 u2 u3 u4=>exact EqAt.none_list ⟨_,u1,u2,_,u3⟩ (room_here rm)
     | tuple u1 u2 u3 u4=>exact EqAt.none_tuple ⟨_,u1,u2,_,u3⟩ (room_here rm)
     | dict u1 u2 u3 u4 u5=>exact Zc8 ⟨_,_,_,u1,u2,u3⟩ (room_here rm)
 | .bool xz,db,Ar,s,_,_,_,_,rd1,rd2,hm,rm=>by
   cases rd1 with
   | bool _=>
     cases rd2 with
     | none=>exact EqAt.bool_none xz
     | bool yz=>exact EqAt.bool_bool xz yz
     | int yz uz=>exact EqAt.bool_int xz yz uz
     | str yz uz=>exact EqAt.bool_str xz yz uz
     | list u1 u2 u3 u4=>exact EqAt.bool_list xz ⟨_,u1,u2,_,u3⟩ (room_here rm)
     | tuple u1 u2 u3 u4=>exact EqAt.bool_tuple xz ⟨_,u1,u2,_,u3⟩ (room_here rm)
     | dict u1 u2 u3 u4 u5=>exact Zc3 xz ⟨_,_,_,u1,u2,u3⟩ (room_here rm)
 | .int xz,db,Ar,s,_,_,_,_,rd1,rd2,hm,rm=>by
   cases rd1 with
   | int _ tz=>
     cases rd2 with
     | none=>exact EqAt.int_none xz tz
     | bool yz=>exact EqAt.int_bool xz tz yz
     | int yz uz=>exact EqAt.int_int xz tz yz uz
     | str yz uz=>exact EqAt.int_str xz tz yz uz
     | list u1 u2 u3 u4=>exact EqAt.int_list xz tz ⟨_,u1,u2,_,u3⟩ (room_here rm)
     | tuple u1 u2 u3 u4=>exact EqAt.int_tuple xz tz ⟨_,u1,u2,_,u3⟩ (room_here rm)
     | dict u1 u2 u3 u4 u5=>exact Zeq xz tz ⟨_,_,_,u1,u2,u3⟩ (room_here rm)
 | .str xz,db,Ar,s,_,_,_,_,rd1,rd2,hm,rm=>by
   cases rd1 with
   | str _ tz=>
     cases rd2 with
     | none=>exact EqAt.str_none xz tz
     | bool yz=>exact EqAt.str_bool xz tz yz
     | int yz uz=>exact EqAt.str_int xz tz yz uz
     | str yz uz=>exact EqAt.str_str xz tz yz uz
     | list u1 u2 u3 u4=>exact EqAt.str_list xz tz ⟨_,u1,u2,_,u3⟩ (room_here rm)
     | tuple u1 u2 u3 u4=>exact EqAt.str_tuple xz tz ⟨_,u1,u2,_,u3⟩ (room_here rm)
     | dict u1 u2 u3 u4 u5=>exact Zer xz tz ⟨_,_,_,u1,u2,u3⟩ (room_here rm)
 | .list xz1,db,Ar,s,_,_,_,_,rd1,rd2,hm,rm=>by
   cases rd1 with
   | @list pL o vs nz _ as₁ rA rB rC rD=>
     have isA:s.heap.IsList pL vs:=⟨_,rA,rB,_,rC⟩
     cases rd2 with
     | none=>exact EqAt.list_none isA (room_here rm)
     | bool yz=>exact EqAt.list_bool yz isA (room_here rm)
     | int yz uz=>exact EqAt.list_int yz uz isA (room_here rm)
     | str yz uz=>exact EqAt.list_str yz uz isA (room_here rm)
     | tuple u1 u2 u3 u4=>exact EqAt.list_tuple isA ⟨_,u1,u2,_,u3⟩ (room_here rm)
     | dict u1 u2 u3 u4 u5=>exact Zc7 isA ⟨_,_,_,u1,u2,u3⟩ (room_here rm)
     | @list l' o' ws2 n' yz1 bs₁ u1 u2 u3 u4=>
       have isB:s.heap.IsList l' ws2:=⟨_,u1,u2,_,u3⟩
       by_cases hp:(PyData.list xz1).plain=true∧(PyData.list yz1).plain=true
       · exact eqAt_plain _ _ Ar s _ _ _ _ (Reads.list rA rB rC rD) (Reads.list u1 u2 u3 u4) hp.1 hp.2 rm
       · have lenA:vs.size=xz1.length:=by simpa using ReadsAll.length _ _ _ rD
         have lenB:ws2.size=yz1.length:=by simpa using ReadsAll.length _ _ _ u4
         have hne:pL≠l':=fun e=>by subst e;exact Zfm (Reads.list rA rB rC rD) (Reads.list u1 u2 u3 u4) hm hp
         show EqAt Ar s (.ref pL) (.ref l') (PyData.eqvAll xz1 yz1)
         by_cases hsz:vs.size=ws2.size
         · rw[← eqvAll_same_length (by omega:xz1.length=yz1.length),← lenA]
           refine EqAt.of_refs hne (RcAt.lists isA isB hsz (room_here rm) fun j j1 j2=>?_)
           have:=YK xz1 yz1 Ar.in1 s vs.toList ws2.toList _ _ rD u4 hm (room_in rm) j (by simpa using j1) (by simpa using j2)
           simpa using this
         · rw[eqvAll_other_length (by omega:xz1.length≠yz1.length)]
           exact EqAt.of_refs hne (RcAt.lists_lengths isA isB (by simpa using hsz) (room_here rm))
 | .tuple xz1,db,Ar,s,_,_,_,_,rd1,rd2,hm,rm=>by
   cases rd1 with
   | @tuple pL o vs nz _ as₁ rA rB rC rD=>
     have isA:s.heap.IsTuple pL vs:=⟨_,rA,rB,_,rC⟩
     cases rd2 with
     | none=>exact EqAt.tuple_none isA (room_here rm)
     | bool yz=>exact EqAt.tuple_bool yz isA (room_here rm)
     | int yz uz=>exact EqAt.tuple_int yz uz isA (room_here rm)
     | str yz uz=>exact EqAt.tuple_str yz uz isA (room_here rm)
     | list u1 u2 u3 u4=>exact EqAt.tuple_list isA ⟨_,u1,u2,_,u3⟩ (room_here rm)
     | dict u1 u2 u3 u4 u5=>exact Zcm isA ⟨_,_,_,u1,u2,u3⟩ (room_here rm)
     | @tuple l' o' ws2 n' yz1 bs₁ u1 u2 u3 u4=>
       have isB:s.heap.IsTuple l' ws2:=⟨_,u1,u2,_,u3⟩
       by_cases hp:(PyData.tuple xz1).plain=true∧(PyData.tuple yz1).plain=true
       · exact eqAt_plain _ _ Ar s _ _ _ _ (Reads.tuple rA rB rC rD) (Reads.tuple u1 u2 u3 u4) hp.1 hp.2 rm
       · have lenA:vs.size=xz1.length:=by simpa using ReadsAll.length _ _ _ rD
         have lenB:ws2.size=yz1.length:=by simpa using ReadsAll.length _ _ _ u4
         have hne:pL≠l':=fun e=>by subst e;exact Zfm (Reads.tuple rA rB rC rD) (Reads.tuple u1 u2 u3 u4) hm hp
         show EqAt Ar s (.ref pL) (.ref l') (PyData.eqvAll xz1 yz1)
         rw[← eqvAll_eq xz1 yz1,← lenA,← lenB]
         refine EqAt.of_refs hne (RcAt.tuples isA isB (room_here rm) fun j j1 j2=>?_)
         have:=YK xz1 yz1 Ar.in1 s vs.toList ws2.toList _ _ rD u4 hm (room_in rm) j (by simpa using j1) (by simpa using j2)
         simpa using this
 | .dict kvs,db,Ar,s,_,_,_,_,rd1,rd2,hm,rm=>by
   have hb:db.plain=true:=hm.resolve_left fun z=>nomatch z
   rw[VX]
   cases rd1 with
   | dict rA rB rC rD w5=>
     have ed:IsD s.heap _:=⟨_,_,_,rA,rB,rC⟩
     cases rd2 with
     | none=>exact Zc6 ed (room_here rm)
     | bool yz=>exact Zc4 yz ed (room_here rm)
     | int yz uz=>exact Zeo yz uz ed (room_here rm)
     | str yz uz=>exact Zep yz uz ed (room_here rm)
     | list u1 u2 u3 u4=>exact Zc5 ⟨_,u1,u2,_,u3⟩ ed (room_here rm)
     | tuple u1 u2 u3 u4=>exact Zcl ⟨_,u1,u2,_,u3⟩ ed (room_here rm)
     | dict=>exact nomatch hb
theorem YK:∀(xz1 yz1:List PyData)(Ar:Around)(s:Shared)(vs ws:List Value)(as bs:List Addr),ReadsAll s.heap vs xz1 as→ReadsAll s.heap ws yz1 bs→(PyData.plainAll xz1=true∨PyData.plainAll yz1=true)→
  Ar.units+min (PyData.depthAll xz1) (PyData.depthAll yz1)<cLine→∀j (b1:j<vs.length) (b2:j<ws.length),EqAt Ar s vs[j] ws[j] (pairEq xz1 yz1 j)
 | [],_,_,_,_,_,_,_,rd1,_,_,_,j,rA,_=>by cases rd1;exact absurd rA (Nat.not_lt_zero _)
 | _ :: _,[],_,_,_,_,_,_,_,rd2,_,_,j,_,rB=>by cases rd2;exact absurd rB (Nat.not_lt_zero _)
 | xz :: xz1,yz :: yz1,Ar,s,_,_,_,_,rd1,rd2,hm,rm,j,rA,rB=>by
   have hm':(xz.plain=true∨yz.plain=true)∧(PyData.plainAll xz1=true∨PyData.plainAll yz1=true):=by
    simp only[PyData.plainAll,Bool.and_eq_true] at hm
    exact⟨hm.imp (·.1) (·.1),hm.imp (·.2) (·.2)⟩
   cases rd1 with
   | cons r rs=>
     cases rd2 with
     | cons r' rs'=>
       cases j with
       | zero=>exact Zc2 xz yz Ar s _ _ _ _ r r' hm'.1 (room_head rm)
       | succ j=>exact YK xz1 yz1 Ar s _ _ _ _ rs rs' hm'.2 (room_tail rm) j (Nat.lt_of_succ_lt_succ rA) (Nat.lt_of_succ_lt_succ rB)
end
theorem ZdF {da db:PyData}{Ar:Around}{s:Shared}{a bz:Value}{as bs:List Addr}(rd1:Reads s.heap a da as)(rd2:Reads s.heap bz db bs)(hm:da.plain=true∨db.plain=true)
  (rm:Ar.units+min da.depth db.depth<cLine):RcAt Ar s a bz (PyData.eqv da db):=by
 by_cases hp:da.plain=true∧db.plain=true
 · exact rcAt_plain rd1 rd2 hp.1 hp.2 rm
 cases rd1 with
 | none=>
   cases rd2 with
   | none=>exact(RcAt.none_none)
   | bool yz=>exact(RcAt.none_bool yz)
   | int yz uz=>exact(RcAt.none_int yz uz)
   | str yz uz=>exact(RcAt.none_str yz uz)
   | list u1 u2 u3 u4=>exact RcAt.none_list ⟨_,u1,u2,_,u3⟩ (room_here rm)
   | tuple u1 u2 u3 u4=>exact RcAt.none_tuple ⟨_,u1,u2,_,u3⟩ (room_here rm)
   | dict u1 u2 u3 u4 u5=>exact U3 ⟨_,_,_,u1,u2,u3⟩ (room_here rm)
 | bool xz=>
   cases rd2 with
   | none=>exact(RcAt.bool_none xz)
   | bool yz=>exact(RcAt.bool_bool xz yz)
   | int yz uz=>exact(RcAt.bool_int xz yz uz)
   | str yz uz=>exact(RcAt.bool_str xz yz uz)
   | list u1 u2 u3 u4=>exact RcAt.bool_list xz ⟨_,u1,u2,_,u3⟩ (room_here rm)
   | tuple u1 u2 u3 u4=>exact RcAt.bool_tuple xz ⟨_,u1,u2,_,u3⟩ (room_here rm)
   | dict u1 u2 u3 u4 u5=>exact UY xz ⟨_,_,_,u1,u2,u3⟩ (room_here rm)
 | int xz tz=>
   cases rd2 with
   | none=>exact(RcAt.int_none xz tz)
   | bool yz=>exact(RcAt.int_bool xz tz yz)
   | int yz uz=>exact(RcAt.int_int xz tz yz uz)
   | str yz uz=>exact(RcAt.int_str xz tz yz uz)
   | list u1 u2 u3 u4=>exact RcAt.int_list xz tz ⟨_,u1,u2,_,u3⟩ (room_here rm)
   | tuple u1 u2 u3 u4=>exact RcAt.int_tuple xz tz ⟨_,u1,u2,_,u3⟩ (room_here rm)
   | dict u1 u2 u3 u4 u5=>exact QX xz tz ⟨_,_,_,u1,u2,u3⟩ (room_here rm)
 | str xz tz=>
   cases rd2 with
   | none=>exact(RcAt.str_none xz tz)
   | bool yz=>exact(RcAt.str_bool xz tz yz)
   | int yz uz=>exact(RcAt.str_int xz tz yz uz)
   | str yz uz=>exact(RcAt.str_str xz tz yz uz)
   | list u1 u2 u3 u4=>exact RcAt.str_list xz tz ⟨_,u1,u2,_,u3⟩ (room_here rm)
   | tuple u1 u2 u3 u4=>exact RcAt.str_tuple xz tz ⟨_,u1,u2,_,u3⟩ (room_here rm)
   | dict u1 u2 u3 u4 u5=>exact QY xz tz ⟨_,_,_,u1,u2,u3⟩ (room_here rm)
 | @list pL o vs nz xz1 as₁ rA rB rC rD=>
   have isA:s.heap.IsList pL vs:=⟨_,rA,rB,_,rC⟩
   cases rd2 with
   | none=>exact RcAt.list_none isA (room_here rm)
   | bool yz=>exact RcAt.list_bool yz isA (room_here rm)
   | int yz uz=>exact RcAt.list_int yz uz isA (room_here rm)
   | str yz uz=>exact RcAt.list_str yz uz isA (room_here rm)
   | tuple u1 u2 u3 u4=>exact RcAt.list_tuple isA ⟨_,u1,u2,_,u3⟩ (room_here rm)
   | dict u1 u2 u3 u4 u5=>exact U2 isA ⟨_,_,_,u1,u2,u3⟩ (room_here rm)
   | @list l' o' ws2 n' yz1 bs₁ u1 u2 u3 u4=>
     have isB:s.heap.IsList l' ws2:=⟨_,u1,u2,_,u3⟩
     have lenA:vs.size=xz1.length:=by simpa using ReadsAll.length _ _ _ rD
     have lenB:ws2.size=yz1.length:=by simpa using ReadsAll.length _ _ _ u4
     have he:∀j (j1:j<vs.size) (j2:j<ws2.size),EqAt Ar.in1 s vs[j] ws2[j] (pairEq xz1 yz1 j):=fun j j1 j2=>by
      have:=YK xz1 yz1 Ar.in1 s vs.toList ws2.toList _ _ rD u4 hm (room_in rm) j (by simpa using j1) (by simpa using j2)
      simpa using this
     show RcAt Ar s (.ref pL) (.ref l') (PyData.eqvAll xz1 yz1)
     by_cases hsz:vs.size=ws2.size
     · rw[← eqvAll_same_length (by omega:xz1.length=yz1.length),← lenA]
       exact RcAt.lists isA isB hsz (room_here rm) he
     · rw[eqvAll_other_length (by omega:xz1.length≠yz1.length)]
       exact RcAt.lists_lengths isA isB (by simpa using hsz) (room_here rm)
 | @tuple pL o vs nz xz1 as₁ rA rB rC rD=>
   have isA:s.heap.IsTuple pL vs:=⟨_,rA,rB,_,rC⟩
   cases rd2 with
   | none=>exact RcAt.tuple_none isA (room_here rm)
   | bool yz=>exact RcAt.tuple_bool yz isA (room_here rm)
   | int yz uz=>exact RcAt.tuple_int yz uz isA (room_here rm)
   | str yz uz=>exact RcAt.tuple_str yz uz isA (room_here rm)
   | list u1 u2 u3 u4=>exact RcAt.tuple_list isA ⟨_,u1,u2,_,u3⟩ (room_here rm)
   | dict u1 u2 u3 u4 u5=>exact Ut isA ⟨_,_,_,u1,u2,u3⟩ (room_here rm)
   | @tuple l' o' ws2 n' yz1 bs₁ u1 u2 u3 u4=>
     have isB:s.heap.IsTuple l' ws2:=⟨_,u1,u2,_,u3⟩
     have lenA:vs.size=xz1.length:=by simpa using ReadsAll.length _ _ _ rD
     have lenB:ws2.size=yz1.length:=by simpa using ReadsAll.length _ _ _ u4
     have he:∀j (j1:j<vs.size) (j2:j<ws2.size),EqAt Ar.in1 s vs[j] ws2[j] (pairEq xz1 yz1 j):=fun j j1 j2=>by
      have:=YK xz1 yz1 Ar.in1 s vs.toList ws2.toList _ _ rD u4 hm (room_in rm) j (by simpa using j1) (by simpa using j2)
      simpa using this
     show RcAt Ar s (.ref pL) (.ref l') (PyData.eqvAll xz1 yz1)
     rw[← eqvAll_eq xz1 yz1,← lenA,← lenB]
     exact RcAt.tuples isA isB (room_here rm) he
 | dict rA rB rC rD w5=>
   have ed:IsD s.heap _:=⟨_,_,_,rA,rB,rC⟩
   rw[VX]
   cases rd2 with
   | none=>exact U1 ed (room_here rm)
   | bool yz=>exact UZ yz ed (room_here rm)
   | int yz uz=>exact QU yz uz ed (room_here rm)
   | str yz uz=>exact QV yz uz ed (room_here rm)
   | list u1 u2 u3 u4=>exact U0 ⟨_,u1,u2,_,u3⟩ ed (room_here rm)
   | tuple u1 u2 u3 u4=>exact Us ⟨_,u1,u2,_,u3⟩ ed (room_here rm)
   | dict=>rcases hm with hm | hm <;> exact nomatch hm
theorem ZdG {da db:PyData}{Ar:Around}{s:Shared}{a bz:Value}{as bs:List Addr}(rd1:Reads s.heap a da as)(rd2:Reads s.heap bz db bs)(hm:da.plain=true∨db.plain=true)
  (rm:Ar.units+min da.depth db.depth<cLine):RcNeAt Ar s a bz (!PyData.eqv da db):=by
 by_cases hp:da.plain=true∧db.plain=true
 · exact rcNe_plain rd1 rd2 hp.1 hp.2 rm
 cases rd1 with
 | none=>
   cases rd2 with
   | none=>exact(RcNeAt.none_none)
   | bool yz=>exact(RcNeAt.none_bool yz)
   | int yz uz=>exact(RcNeAt.none_int yz uz)
   | str yz uz=>exact(RcNeAt.none_str yz uz)
   | list u1 u2 u3 u4=>exact RcNeAt.none_list ⟨_,u1,u2,_,u3⟩ (room_here rm)
   | tuple u1 u2 u3 u4=>exact RcNeAt.none_tuple ⟨_,u1,u2,_,u3⟩ (room_here rm)
   | dict u1 u2 u3 u4 u5=>exact ZdN ⟨_,_,_,u1,u2,u3⟩ (room_here rm)
 | bool xz=>
   cases rd2 with
   | none=>exact(RcNeAt.bool_none xz)
   | bool yz=>exact(RcNeAt.bool_bool xz yz)
   | int yz uz=>exact(RcNeAt.bool_int xz yz uz)
   | str yz uz=>exact(RcNeAt.bool_str xz yz uz)
   | list u1 u2 u3 u4=>exact RcNeAt.bool_list xz ⟨_,u1,u2,_,u3⟩ (room_here rm)
   | tuple u1 u2 u3 u4=>exact RcNeAt.bool_tuple xz ⟨_,u1,u2,_,u3⟩ (room_here rm)
   | dict u1 u2 u3 u4 u5=>exact ZdI xz ⟨_,_,_,u1,u2,u3⟩ (room_here rm)
 | int xz tz=>
   cases rd2 with
   | none=>exact(RcNeAt.int_none xz tz)
   | bool yz=>exact(RcNeAt.int_bool xz tz yz)
   | int yz uz=>exact(RcNeAt.int_int xz tz yz uz)
   | str yz uz=>exact(RcNeAt.int_str xz tz yz uz)
   | list u1 u2 u3 u4=>exact RcNeAt.int_list xz tz ⟨_,u1,u2,_,u3⟩ (room_here rm)
   | tuple u1 u2 u3 u4=>exact RcNeAt.int_tuple xz tz ⟨_,u1,u2,_,u3⟩ (room_here rm)
   | dict u1 u2 u3 u4 u5=>exact ZeC xz tz ⟨_,_,_,u1,u2,u3⟩ (room_here rm)
 | str xz tz=>
   cases rd2 with
   | none=>exact(RcNeAt.str_none xz tz)
   | bool yz=>exact(RcNeAt.str_bool xz tz yz)
   | int yz uz=>exact(RcNeAt.str_int xz tz yz uz)
   | str yz uz=>exact(RcNeAt.str_str xz tz yz uz)
   | list u1 u2 u3 u4=>exact RcNeAt.str_list xz tz ⟨_,u1,u2,_,u3⟩ (room_here rm)
   | tuple u1 u2 u3 u4=>exact RcNeAt.str_tuple xz tz ⟨_,u1,u2,_,u3⟩ (room_here rm)
   | dict u1 u2 u3 u4 u5=>exact ZeD xz tz ⟨_,_,_,u1,u2,u3⟩ (room_here rm)
 | @list pL o vs nz xz1 as₁ rA rB rC rD=>
   have isA:s.heap.IsList pL vs:=⟨_,rA,rB,_,rC⟩
   cases rd2 with
   | none=>exact RcNeAt.list_none isA (room_here rm)
   | bool yz=>exact RcNeAt.list_bool yz isA (room_here rm)
   | int yz uz=>exact RcNeAt.list_int yz uz isA (room_here rm)
   | str yz uz=>exact RcNeAt.list_str yz uz isA (room_here rm)
   | tuple u1 u2 u3 u4=>exact RcNeAt.list_tuple isA ⟨_,u1,u2,_,u3⟩ (room_here rm)
   | dict u1 u2 u3 u4 u5=>exact ZdM isA ⟨_,_,_,u1,u2,u3⟩ (room_here rm)
   | @list l' o' ws2 n' yz1 bs₁ u1 u2 u3 u4=>
     have isB:s.heap.IsList l' ws2:=⟨_,u1,u2,_,u3⟩
     have lenA:vs.size=xz1.length:=by simpa using ReadsAll.length _ _ _ rD
     have lenB:ws2.size=yz1.length:=by simpa using ReadsAll.length _ _ _ u4
     have he:∀j (j1:j<vs.size) (j2:j<ws2.size),EqAt Ar.in1 s vs[j] ws2[j] (pairEq xz1 yz1 j):=fun j j1 j2=>by
      have:=YK xz1 yz1 Ar.in1 s vs.toList ws2.toList _ _ rD u4 hm (room_in rm) j (by simpa using j1) (by simpa using j2)
      simpa using this
     show RcNeAt Ar s (.ref pL) (.ref l') (!PyData.eqvAll xz1 yz1)
     by_cases hsz:vs.size=ws2.size
     · rw[← eqvAll_same_length (by omega:xz1.length=yz1.length),← lenA]
       exact RcNeAt.lists isA isB hsz (room_here rm) he
     · rw[eqvAll_other_length (by omega:xz1.length≠yz1.length)]
       exact RcNeAt.lists_lengths isA isB (by simpa using hsz) (room_here rm)
 | @tuple pL o vs nz xz1 as₁ rA rB rC rD=>
   have isA:s.heap.IsTuple pL vs:=⟨_,rA,rB,_,rC⟩
   cases rd2 with
   | none=>exact RcNeAt.tuple_none isA (room_here rm)
   | bool yz=>exact RcNeAt.tuple_bool yz isA (room_here rm)
   | int yz uz=>exact RcNeAt.tuple_int yz uz isA (room_here rm)
   | str yz uz=>exact RcNeAt.tuple_str yz uz isA (room_here rm)
   | list u1 u2 u3 u4=>exact RcNeAt.tuple_list isA ⟨_,u1,u2,_,u3⟩ (room_here rm)
   | dict u1 u2 u3 u4 u5=>exact Zcr isA ⟨_,_,_,u1,u2,u3⟩ (room_here rm)
   | @tuple l' o' ws2 n' yz1 bs₁ u1 u2 u3 u4=>
     have isB:s.heap.IsTuple l' ws2:=⟨_,u1,u2,_,u3⟩
     have lenA:vs.size=xz1.length:=by simpa using ReadsAll.length _ _ _ rD
     have lenB:ws2.size=yz1.length:=by simpa using ReadsAll.length _ _ _ u4
     have he:∀j (j1:j<vs.size) (j2:j<ws2.size),EqAt Ar.in1 s vs[j] ws2[j] (pairEq xz1 yz1 j):=fun j j1 j2=>by
      have:=YK xz1 yz1 Ar.in1 s vs.toList ws2.toList _ _ rD u4 hm (room_in rm) j (by simpa using j1) (by simpa using j2)
      simpa using this
     show RcNeAt Ar s (.ref pL) (.ref l') (!PyData.eqvAll xz1 yz1)
     rw[← eqvAll_eq xz1 yz1,← lenA,← lenB]
     exact RcNeAt.tuples isA isB (room_here rm) he
 | dict rA rB rC rD w5=>
   have ed:IsD s.heap _:=⟨_,_,_,rA,rB,rC⟩
   rw[VX]
   cases rd2 with
   | none=>exact ZdL ed (room_here rm)
   | bool yz=>exact ZdJ yz ed (room_here rm)
   | int yz uz=>exact ZeA yz uz ed (room_here rm)
   | str yz uz=>exact ZeB yz uz ed (room_here rm)
   | list u1 u2 u3 u4=>exact ZdK ⟨_,u1,u2,_,u3⟩ ed (room_here rm)
   | tuple u1 u2 u3 u4=>exact Zcq ⟨_,u1,u2,_,u3⟩ ed (room_here rm)
   | dict=>rcases hm with hm | hm <;> exact nomatch hm
section
variable {prog:Program}{w:World}{Ar:Around}{Ex:Value→Shared→Prop}{s:Shared}
theorem Vd {vs:Array Value}{xz1:List PyData}{as bs:List Addr}{xz:Value}{d:PyData}(rs:ReadsAll s.heap vs.toList xz1 as)(rx:Reads s.heap xz d bs)(hxs:PyData.plainAll xz1=true)
  (rm:Ar.units+1+min (PyData.depthAll xz1) d.depth<cLine):∀yz,yz∈vs→EqAt Ar.in1 s yz xz (PyData.eqv (readOf s.heap yz) d):=fun yz hy=>by
 obtain⟨dz2,cz,rz,plz,lez⟩:=readsAll_mem_plain xz1 _ _ hxs rs yz (by simpa using hy)
 rw[readOf_plain plz rz]
 refine Zc2 dz2 d Ar.in1 s yz xz _ _ rz rx (.inl plz) ?_
 have rA:min dz2.depth d.depth≤min (PyData.depthAll xz1) d.depth:=Nat.le_min.mpr ⟨Nat.le_trans (Nat.min_le_left _ _) lez,Nat.min_le_right _ _⟩
 show Ar.units+1+min dz2.depth d.depth<cLine
 omega
theorem Zex {c xz:Value}{xz1:List PyData}{d:PyData}{as bs:List Addr}{Qz:Value→Shared→Prop}(rc:Reads s.heap c (.list xz1) as)(rx:Reads s.heap xz d bs)(hxs:PyData.plainAll xz1=true)
  (rm:Ar.units+1+min (PyData.depthAll xz1) d.depth<cLine) (hz:Qz (.bool (xz1.any fun yz=>PyData.eqv yz d)) s):wpAny (model prog w) Ar (compareOp .In xz c) Qz Ex s:=by
 cases rc with
 | list rA rB rC rD=>exact in_listAt _ ⟨_,rA,rB,_,rC⟩ (Vd rD rx hxs rm) (by rw[any_plain rD hxs];exact hz)
theorem Zbq {c xz:Value}{xz1:List PyData}{d:PyData}{as bs:List Addr}{Qz:Value→Shared→Prop}(rc:Reads s.heap c (.list xz1) as)(rx:Reads s.heap xz d bs)(hxs:PyData.plainAll xz1=true)
  (rm:Ar.units+1+min (PyData.depthAll xz1) d.depth<cLine) (hz:Qz (.bool (!xz1.any fun yz=>PyData.eqv yz d)) s):wpAny (model prog w) Ar (compareOp .NotIn xz c) Qz Ex s:=by
 cases rc with
 | list rA rB rC rD=>exact notIn_listAt _ ⟨_,rA,rB,_,rC⟩ (Vd rD rx hxs rm) (by rw[any_plain rD hxs];exact hz)
theorem Zdg {c xz:Value}{xz1:List PyData}{d:PyData}{as bs:List Addr}{Qz:Value→Shared→Prop}(rc:Reads s.heap c (.tuple xz1) as)(rx:Reads s.heap xz d bs)(hxs:PyData.plainAll xz1=true)
  (rm:Ar.units+1+min (PyData.depthAll xz1) d.depth<cLine) (hz:Qz (.bool (xz1.any fun yz=>PyData.eqv yz d)) s):wpAny (model prog w) Ar (compareOp .In xz c) Qz Ex s:=by
 cases rc with
 | tuple rA rB rC rD=>exact in_tupleAt _ ⟨_,rA,rB,_,rC⟩ (Vd rD rx hxs rm) (by rw[any_plain rD hxs];exact hz)
theorem ZaT {c xz:Value}{xz1:List PyData}{d:PyData}{as bs:List Addr}{Qz:Value→Shared→Prop}(rc:Reads s.heap c (.tuple xz1) as)(rx:Reads s.heap xz d bs)(hxs:PyData.plainAll xz1=true)
  (rm:Ar.units+1+min (PyData.depthAll xz1) d.depth<cLine) (hz:Qz (.bool (!xz1.any fun yz=>PyData.eqv yz d)) s):wpAny (model prog w) Ar (compareOp .NotIn xz c) Qz Ex s:=by
 cases rc with
 | tuple rA rB rC rD=>exact notIn_tupleAt _ ⟨_,rA,rB,_,rC⟩ (Vd rD rx hxs rm) (by rw[any_plain rD hxs];exact hz)
end
end Sw.Dq
namespace Sw
open PySem PySem.Spec PyProof.Rows PyProof.V L2
section
variable {X:Cx}{cl:ClsT}{pins:List (Addr×Obj)}{σ:L2.St}{H:Hp}{s:Shared}{S:Za}{P:Addr→Prop}
theorem ZpM {K:PySem.W.Frag}(rs:RS K cl H S P){a:Addr}{o:HO}(h:H a=some o)(m:Mut (some o)):sysModules≠a:=fun z=>by
 obtain⟨u,e,n⟩:=rs.sm
 rw[z,h] at e
 cases e
 exact n m
theorem Zf2 {h:Heap}(k:Key)(u:Value)(hk:keyIs k u=true):Reads h u (keyQ k) []:=by
 rcases keyIs_shape hk with ⟨i,t,rfl,rfl⟩ |⟨x,t,rfl,rfl⟩
 · exact Reads.int i t
 · exact Reads.str x t
mutual
theorem X2 (I:Inv X pins σ H s)(rs:RS X.K cl H S P):∀(d:D){v:V}{u:Value},Rep X.K H S P v d→d.whole=true→RelV v u→∃as,Reads s.heap u d.toQ as∧sysModules∉as
 | .non,_,_,r,_,ru=>by cases r;cases ru;exact⟨_,Reads.none,by simp⟩
 | .bl b,_,_,r,_,ru=>by cases r;cases ru;exact⟨_,Reads.bool b,by simp⟩
 | .int i,_,_,r,_,ru=>by cases r;obtain⟨t,rfl⟩:=ru;exact⟨_,Reads.int i t,by simp⟩
 | .str x,_,_,r,_,ru=>by cases r;obtain⟨t,rfl⟩:=ru;exact⟨_,Reads.str x t,by simp⟩
 | .tup ds,_,_,r,hw,ru=>by
   cases r with
   | tup ht q=>
     cases ru
     obtain⟨its,rv,⟨o,ho,hc,n,hd⟩,_⟩:=I.tuple ht.t
     obtain⟨as,hr,hs⟩:=W6 I rs ds q (by rw[D.whole] at hw;exact hw) rv
     exact⟨as,Reads.tuple ho hc hd hr,hs⟩
 | .lst ds,_,_,r,hw,ru=>by
   cases r with
   | lst ha _ _ q=>
     cases ru
     obtain⟨its,rv,⟨o,n,ho,hc,_,hd⟩,_⟩:=I.list (SqL.of ha)
     obtain⟨as,hr,hs⟩:=W6 I rs ds q (by rw[D.whole] at hw;exact hw) rv
     refine⟨_,Reads.list ho hc hd hr,fun hm=>?_⟩
     rcases List.mem_cons.mp hm with e | hm
     · exact ZpM rs ha trivial e
     · exact hs hm
 | .dic ks ds,_,_,r,hw,ru=>by
   cases r with
   | dic ha hl q=>
     cases ru
     obtain⟨_,hsm,vs,kv,hd⟩:=dk_rd I.hok ha.rd
     obtain⟨as,hp,hs⟩:=QZ I rs ks ds q (by rw[D.whole] at hw;exact hw) hl kv
     refine⟨_,reads_dictOf Zf2 hd hp,fun hm=>?_⟩
     rcases List.mem_cons.mp hm with e | hm
     · rw[← e] at hsm;simp at hsm
     · exact hs hm
 | .scr _,_,_,_,hw,_=>by rw[D.whole] at hw;cases hw
 | .obj _,_,_,_,hw,_=>by rw[D.whole] at hw;cases hw
theorem W6 (I:Inv X pins σ H s)(rs:RS X.K cl H S P):∀(ds:List D){vs:List V}{us:List Value},Zb X.K H S P vs ds→D.wholes ds=true→Vals vs us→∃as,ReadsAll s.heap us (D.toQs ds) as∧sysModules∉as
 | [],_,_,r,_,ru=>by cases r;cases ru;exact⟨_,ReadsAll.nil,by simp⟩
 | d :: ds,_,_,r,hw,ru=>by
   rw[D.wholes,Bool.and_eq_true] at hw
   cases r with
   | cons a t=>
     cases ru with
     | cons b c=>
       obtain⟨as,h1,n1⟩:=X2 I rs d a hw.1 b
       obtain⟨bs,h2,n2⟩:=W6 I rs ds t hw.2 c
       exact⟨_,ReadsAll.cons h1 h2,fun hm=>(List.mem_append.mp hm).elim n1 n2⟩
theorem QZ (I:Inv X pins σ H s)(rs:RS X.K cl H S P):∀(ks:List Key)(ds:List D){xs:List V}{kvs:List (Key×Value)},Zb X.K H S P xs ds→D.wholes ds=true→ks.length=xs.length→KV (ks.zip xs) kvs→∃as,PairsRead s.heap keyQ kvs ((ks.map keyQ).zip (D.toQs ds)) as∧sysModules∉as
 | [],_,_,_,r,_,hl,kv=>by
   have:_=[]:=List.eq_nil_of_length_eq_zero hl.symm
   subst this
   cases r
   cases kv
   exact⟨_,.nil,by simp⟩
 | k :: ks,[],_,_,r,_,hl,_=>by cases r;simp at hl
 | k :: ks,d :: ds,_,_,r,hw,hl,kv=>by
   rw[D.wholes,Bool.and_eq_true] at hw
   cases r with
   | cons a t=>
     rw[List.zip_cons_cons] at kv
     cases kv with
     | @cons _ q _ _ hkv rest=>
       obtain⟨k',y⟩:=q
       obtain⟨e,b⟩:=hkv
       have e:k=k':=e
       subst e
       obtain⟨as,h1,n1⟩:=X2 I rs d a hw.1 b
       obtain⟨bs,h2,n2⟩:=QZ I rs ks ds t hw.2 (by simpa using hl) rest
       exact⟨_,.cons h1 h2,fun hm=>(List.mem_append.mp hm).elim n1 n2⟩
end
end
end Sw
namespace Sw
open PySem PySem.Spec PyProof.Rows L2
section
variable {X:Cx}{cl:ClsT}{pins:List (Addr×Obj)}{σ:L2.St}{H:Hp}{S:Za}{P:Addr→Prop}{s:Shared}
theorem Z7 (I:Inv X pins σ H s){v:V}{u:Value}{p:PyData}(d:Dp X.K H v p)(r:RelV v u):∃as,Reads s.heap u p as:=Dp.reads I p v u d r
theorem Zg0 (rs:RS X.K cl H S P){x y:V}{dx dy:D}{b:Bool}(rx:Rep X.K H S P x dx)(ry:Rep X.K H S P y dy)(h:eqD S dx dy=some b)(hu:X.A.units+100<cLine){v u:Value}(I:Inv X pins σ H s)(hv:RelV x v)(hw:RelV y u) :
  wpAny (model X.prog X.w) X.A (compareOp .Eq v u) (EP X pins σ (lift X.K cl true (Just (.bl b) S) H S P)) X.xe s∧wpAny (model X.prog X.w) X.A (compareOp .NotEq v u) (EP X pins σ (lift X.K cl true (Just (.bl (!b)) S) H S P)) X.xe s:=by
 unfold eqD at h
 split at h
 · next p q hp hq=>
   split at h
   · next hz=>
     cases h
     obtain⟨d1,p1⟩:=XW rs rx hp
     obtain⟨d2,p2⟩:=XW rs ry hq
     obtain⟨as,r1⟩:=Z7 I d1 hv
     obtain⟨bs,r2⟩:=Z7 I d2 hw
     exact⟨SeqAt.eq_plain r1 r2 p1 p2 (by omega) ⟨.bl _,H,I,rfl,Zt rs (.bl _) rfl⟩,SeqAt.ne_plain r1 r2 p1 p2 (by omega) ⟨.bl _,H,I,rfl,Zt rs (.bl _) rfl⟩⟩
   · cases h
 · next p hp hq=>
   split at h
   · next hz=>
     cases h
     obtain⟨hw2,hz⟩:=hz
     obtain⟨d1,p1⟩:=XW rs rx hp
     obtain⟨as,r1⟩:=Z7 I d1 hv
     obtain⟨bs,r2,_⟩:=X2 I rs dy ry hw2 hw
     exact⟨Dq.ZdF r1 r2 (.inl p1) (by omega) _ _ _ _ ⟨.bl _,H,I,rfl,Zt rs (.bl _) rfl⟩,Dq.ZdG r1 r2 (.inl p1) (by omega) _ _ _ _ ⟨.bl _,H,I,rfl,Zt rs (.bl _) rfl⟩⟩
   · cases h
 · next q hp hq=>
   split at h
   · next hz=>
     cases h
     obtain⟨hw2,hz⟩:=hz
     obtain⟨d1,p1⟩:=XW rs ry hq
     obtain⟨as,r1⟩:=Z7 I d1 hw
     obtain⟨bs,r2,_⟩:=X2 I rs dx rx hw2 hv
     exact⟨Dq.ZdF r2 r1 (.inr p1) (by omega) _ _ _ _ ⟨.bl _,H,I,rfl,Zt rs (.bl _) rfl⟩,Dq.ZdG r2 r1 (.inr p1) (by omega) _ _ _ _ ⟨.bl _,H,I,rfl,Zt rs (.bl _) rfl⟩⟩
   · cases h
 · cases h
theorem Zdb {α β:Type}(k:Key):∀(ks:List Key)(xs:List α)(ds:List β),ks.length=xs.length→ks.length=ds.length→
  (∃i:Nat,((ks.zip xs).find? fun kv=>decide (kv.1=k))=(ks[i]?.bind fun k'=>(xs[i]?).map fun x=>(k',x))∧((ks.zip ds).find? fun kv=>decide (kv.1=k))=(ks[i]?.bind fun k'=>(ds[i]?).map fun x=>(k',x)))
 | [],[],[],_,_=>⟨0,rfl,rfl⟩
 | k' :: ks,x :: xs,d :: ds,h1,h2=>by
   by_cases e:k'=k
   · refine⟨0,?_,?_⟩ <;> simp[e]
   · obtain⟨i,e1,e2⟩:=Zdb k ks xs ds (by simpa using h1) (by simpa using h2)
     refine⟨i+1,?_,?_⟩
     · rw[List.zip_cons_cons,List.find?_cons_of_neg (by simpa using e),e1];simp
     · rw[List.zip_cons_cons,List.find?_cons_of_neg (by simpa using e),e2];simp
 | [],_ :: _,_,h,_=>by simp at h
 | [],[],_ :: _,_,h=>by simp at h
 | _ :: _,[],_,h,_=>by simp at h
 | _ :: _,_ :: _,[],_,h=>by simp at h
theorem Zae {kvs:List (Key×D)}{vs:List V}{k:Key}(hl:vs.length=kvs.length)(q:Zb X.K H S P vs (kvs.map (·.2))) :
  (Xv kvs k=none∧valV ((kvs.map (·.1)).zip vs) k=none)∨∃d v,Xv kvs k=some d∧valV ((kvs.map (·.1)).zip vs) k=some v∧Rep X.K H S P v d:=by
 obtain⟨i,e1,e2⟩:=Zdb (α:=V) (β:=D) k (kvs.map (·.1)) vs (kvs.map (·.2)) (by simp[hl]) (by simp)
 have e0:(kvs.map (·.1)).zip (kvs.map (·.2))=kvs:=by
  rw[List.zip_map']
  exact List.map_id'' (fun _=>rfl) kvs |>.symm▸rfl
 rw[e0] at e2
 unfold Xv valV
 rw[e1,e2]
 cases h:kvs[i]? with
 | none=>
   left
   have:(kvs.map (·.1))[i]?=none:=by simp[h]
   simp[this]
 | some kv=>
   right
   have h1:(kvs.map (·.1))[i]?=some kv.1:=by simp[h]
   have h2:(kvs.map (·.2))[i]?=some kv.2:=by simp[h]
   obtain⟨v,hv,r⟩:=q.get h2
   exact⟨kv.2,v,by simp[h1,h2],by simp[h1,hv],r⟩
theorem Wo {x:V}{d:D}{k:Key}(r:Rep X.K H S P x d)(h:keyD d=some k):x=kV k:=by
 cases r <;> first | (cases h;rfl) | cases h
theorem Zha (rs:RS X.K cl H S P){x y:V}{dx dy:D}{b:Bool}(rx:Rep X.K H S P x dx)(ry:Rep X.K H S P y dy)(h:inD S dx dy=some b)(hu:X.A.units+100<cLine){v u:Value}(I:Inv X pins σ H s)(hv:RelV x v)(hw:RelV y u) :
  wpAny (model X.prog X.w) X.A (compareOp .In v u) (EP X pins σ (lift X.K cl true (Just (.bl b) S) H S P)) X.xe s∧wpAny (model X.prog X.w) X.A (compareOp .NotIn v u) (EP X pins σ (lift X.K cl true (Just (.bl (!b)) S) H S P)) X.xe s:=by
 have fin:∀c:Bool,lift X.K cl true (Just (.bl c) S) H S P (.bl c) H:=fun c=>Zt rs (.bl c) rfl
 unfold inD at h
 split at h
 · next j=>
   split at h
   · next i=>
     cases h
     cases rx;cases ry
     unfold ZjY
     by_cases h1:i.cps.size=1
     · rw[if_pos h1]
       have e:i=⟨#[i.cps.getD 0 0]⟩:=by
        obtain⟨c⟩:=i
        have h1:c.size=1:=h1
        congr 1
        apply Array.ext
        · simpa using h1
        · intro k hk1 hk2
          have:k=0:=by omega
          subst this
          simp[Array.getD,h1]
       exact⟨op_in_sign pins s σ H _ _ v u _ I hv hw ⟨_,j,congrArg V.str e,rfl,fin _⟩,op_notIn_sign pins s σ H _ _ v u _ I hv hw ⟨_,j,congrArg V.str e,rfl,fin _⟩⟩
     · rw[if_neg h1]
       exact⟨op_in_str pins s σ H _ _ v u _ I hv hw ⟨i,j,rfl,rfl,fin _⟩,op_notin_str pins s σ H _ _ v u _ I hv hw ⟨i,j,rfl,rfl,fin _⟩⟩
   · cases h
 · split at h
   · next kvs hk=>
     split at h
     · next k hkd=>
       cases h
       obtain⟨a,vs,rfl,hl,ha,q⟩:=XH rs ry hk
       have ex:=Wo rx hkd
       subst ex
       obtain rfl:u=Value.ref a:=hw
       have e:(valV ((kvs.map (·.1)).zip vs) k).isSome=(Xv kvs k).isSome:=by
        rcases Zae (k:=k) hl q with ⟨e1,e2⟩ |⟨d,v,e1,e2,_⟩ <;> rw[e1,e2] <;> rfl
       exact⟨d_in (by omega) I (Vn (k:=k) ha) hv fun s3 I3=>⟨.bl _,H,I3,rfl,by rw[e];exact fin _⟩,d_notIn (by omega) I (Vn (k:=k) ha) hv fun s3 I3=>⟨.bl _,H,I3,rfl,by rw[e];exact fin _⟩⟩
     · cases h
   · split at h
     · next ds p hs hp=>
       split at h
       · next hz=>
         cases h
         obtain⟨d1,p1⟩:=XW rs rx hp
         obtain⟨as,r1⟩:=Z7 I d1 hv
         obtain⟨a,xs,rfl,ha,q⟩:=Yl rs ry hs
         have hd:=Wa rs ds hz.1 q
         have hpl:=ZQ ds hz.1
         rcases ha with ha | ha
         · obtain⟨bs,r2⟩:=Z7 I (Dp.lst (SqL.of ha) hd) hw
           exact⟨SeqAt.in_list_data r2 r1 hpl p1 (by omega) ⟨.bl _,H,I,rfl,fin _⟩,SeqAt.notIn_list_data r2 r1 hpl p1 (by omega) ⟨.bl _,H,I,rfl,fin _⟩⟩
         · obtain⟨bs,r2⟩:=Z7 I (Dp.tup ha.t hd) hw
           exact⟨SeqAt.in_tuple_data r2 r1 hpl p1 (by omega) ⟨.bl _,H,I,rfl,fin _⟩,SeqAt.notIn_tuple_data r2 r1 hpl p1 (by omega) ⟨.bl _,H,I,rfl,fin _⟩⟩
       · cases h
     · next ds hs hp=>
       split at h
       · next hz=>
         cases h
         obtain⟨hw2,hpu,hz⟩:=hz
         obtain⟨as,r1,_⟩:=X2 I rs dx rx hw2 hv
         obtain⟨a,xs,rfl,ha,q⟩:=Yl rs ry hs
         have hd:=Wa rs ds hpu q
         have hpl:=ZQ ds hpu
         rcases ha with ha | ha
         · obtain⟨bs,r2⟩:=Z7 I (Dp.lst (SqL.of ha) hd) hw
           exact⟨Dq.Zex r2 r1 hpl (by omega) ⟨.bl _,H,I,rfl,fin _⟩,Dq.Zbq r2 r1 hpl (by omega) ⟨.bl _,H,I,rfl,fin _⟩⟩
         · obtain⟨bs,r2⟩:=Z7 I (Dp.tup ha.t hd) hw
           exact⟨Dq.Zdg r2 r1 hpl (by omega) ⟨.bl _,H,I,rfl,fin _⟩,Dq.ZaT r2 r1 hpl (by omega) ⟨.bl _,H,I,rfl,fin _⟩⟩
       · cases h
     · cases h
theorem ZkE (o:CmpOp)(rs:RS X.K cl H S P){x y:V}{dx dy:D}{b:Bool}(rx:Rep X.K H S P x dx)(ry:Rep X.K H S P y dy)(h:cmpB o S dx dy=some b)(hu:X.A.units+100<cLine){v u:Value}(I:Inv X pins σ H s)(hv:RelV x v)(hw:RelV y u) :
  wpAny (model X.prog X.w) X.A (compareOp o v u) (EP X pins σ (lift X.K cl true (Just (.bl b) S) H S P)) X.xe s:=by
 have fin:∀c:Bool,lift X.K cl true (Just (.bl c) S) H S P (.bl c) H:=fun c=>Zt rs (.bl c) rfl
 have two:∀ {i j:Int},dx=.int i→dy=.int j→x=.int i∧y=.int j:=fun {i j} e1 e2=>by
  subst e1 e2;cases rx;cases ry;exact⟨rfl,rfl⟩
 have twoS:∀ {i j:Str},dx=.str i→dy=.str j→x=.str i∧y=.str j:=fun {i j} e1 e2=>by
  subst e1 e2;cases rx;cases ry;exact⟨rfl,rfl⟩
 cases o with
 | Eq=>exact(Zg0 rs rx ry h hu I hv hw).1
 | NotEq=>
   have h:(eqD S dx dy).map (!·)=some b:=h
   cases e:eqD S dx dy with
   | none=>rw[e] at h;cases h
   | some c=>rw[e] at h;cases h;exact(Zg0 rs rx ry e hu I hv hw).2
 | In=>exact(Zha rs rx ry h hu I hv hw).1
 | NotIn=>
   have h:(inD S dx dy).map (!·)=some b:=h
   cases e:inD S dx dy with
   | none=>rw[e] at h;cases h
   | some c=>rw[e] at h;cases h;exact(Zha rs rx ry e hu I hv hw).2
 | Lt=>
   cases dx <;> try cases h
   · cases dy <;> try cases h
     obtain⟨rfl,rfl⟩:=two rfl rfl
     exact op_lt pins s σ H _ _ v u _ I hv hw ⟨_,_,rfl,rfl,fin _⟩
   · cases dy <;> try cases h
     obtain⟨rfl,rfl⟩:=twoS rfl rfl
     exact op_lt_str pins s σ H _ _ v u _ I hv hw ⟨_,_,rfl,rfl,fin _⟩
 | LtE=>
   cases dx <;> try cases h
   · cases dy <;> try cases h
     obtain⟨rfl,rfl⟩:=two rfl rfl
     exact op_le pins s σ H _ _ v u _ I hv hw ⟨_,_,rfl,rfl,fin _⟩
   · cases dy <;> try cases h
     obtain⟨rfl,rfl⟩:=twoS rfl rfl
     exact op_le_str pins s σ H _ _ v u _ I hv hw ⟨_,_,rfl,rfl,fin _⟩
 | Gt=>
   cases dx <;> try cases h
   · cases dy <;> try cases h
     obtain⟨rfl,rfl⟩:=two rfl rfl
     exact op_gt pins s σ H _ _ v u _ I hv hw ⟨_,_,rfl,rfl,fin _⟩
   · cases dy <;> try cases h
     obtain⟨rfl,rfl⟩:=twoS rfl rfl
     exact op_gt_str pins s σ H _ _ v u _ I hv hw ⟨_,_,rfl,rfl,fin _⟩
 | GtE=>
   cases dx <;> try cases h
   · cases dy <;> try cases h
     obtain⟨rfl,rfl⟩:=two rfl rfl
     exact op_ge pins s σ H _ _ v u _ I hv hw ⟨_,_,rfl,rfl,fin _⟩
   · cases dy <;> try cases h
     obtain⟨rfl,rfl⟩:=twoS rfl rfl
     exact op_ge_str pins s σ H _ _ v u _ I hv hw ⟨_,_,rfl,rfl,fin _⟩
 | _=>cases dx <;> first | cases h | (cases dy <;> cases h)
theorem QD (rs:RS X.K cl H S P){x:V}{d:D}{b:Bool}(r:Rep X.K H S P x d)(h:truD S d=some b):TruV X.K x H b:=by
 cases r with
 | non=>cases h;rfl
 | bl=>cases h;rfl
 | int=>cases h;rfl
 | str y=>
   unfold truD at h
   dsimp only at h
   split at h
   · next hz=>cases h;exact⟨hz,rfl⟩
   · cases h
 | tup e q=>cases h;exact .inr (.inl ⟨_,e.t,by cases q <;> rfl⟩)
 | lst e _ _ q=>cases h;exact .inl ⟨_,SqL.of e,by cases q <;> rfl⟩
 | dic=>cases h
 | scr=>cases h
 | obj a=>
   unfold truD at h
   dsimp only at h
   cases e:S a with
   | none=>rw[e] at h;cases h
   | some mo=>
     rw[e] at h
     obtain⟨_,m⟩:=rs.own a _ e
     cases mo with
     | lst ds=>
       cases h
       obtain⟨xs,e1,q⟩:=m
       exact .inl ⟨_,SqL.of e1,by cases q <;> rfl⟩
     | dic kvs=>
       cases h
       obtain⟨vs,hl,e1,_,_⟩:=m
       refine .inr (.inr ⟨_,e1,?_⟩)
       cases kvs <;> cases vs <;> first | rfl | simp at hl
     | ins c fs=>cases h
theorem Zk6 (t:Ty)(rs:RS X.K cl H S P){x:V}{d:D}{b:Bool}(r:Rep X.K H S P x d)(h:isaD t S d=some b):∃n,TyX X.K H x (.type n)∧PySem.W.kitOne X.K (.type n) (.type t.nm)=some b:=by
 have one:∀(n:String)(c:Bool),TyX X.K H x (.type n)→kitB n t.nm=some c→c=b→∃n,TyX X.K H x (.type n)∧PySem.W.kitOne X.K (.type n) (.type t.nm)=some b:=fun n c h1 h2 h3=>⟨n,h1,kit_ty (by rw[h2,h3])⟩
 cases r with
 | non=>cases h;exact one "NoneType" false (.base .non) (by cases t <;> decide +kernel) rfl
 | bl=>cases h;exact one "bool" (t == .bool || t == .int) (.base (.bl _)) (by cases t <;> decide +kernel) rfl
 | int=>cases h;exact one "int" (t == .int) (.base (.int _)) (by cases t <;> decide +kernel) rfl
 | str y=>cases h;exact one "str" (t == .str) (.base (.str _)) (by cases t <;> decide +kernel) rfl
 | tup e q=>
   cases h
   refine one "tuple" (t == .tuple) ?_ (by cases t <;> decide +kernel) rfl
   obtain⟨o,e,_⟩:=e
   exact .fTuple e
 | lst e _ _ q=>cases h;exact one "list" (t == .list) (.base (.lst e)) (by cases t <;> decide +kernel) rfl
 | dic e _ q=>cases h;exact one "dict" (t == .dict) (Zik e.rd) (by cases t <;> decide +kernel) rfl
 | scr e q=>cases h
 | obj a=>
   unfold isaD at h
   dsimp only at h
   cases e:S a with
   | none=>rw[e] at h;cases h
   | some mo=>
     rw[e] at h
     obtain⟨_,m⟩:=rs.own a _ e
     cases mo with
     | lst ds=>
       cases h
       obtain⟨xs,e1,q⟩:=m
       exact one "list" (t == .list) (.base (.lst e1)) (by cases t <;> decide +kernel) rfl
     | dic kvs=>
       cases h
       obtain⟨vs,hl,e1,_,_⟩:=m
       exact one "dict" (t == .dict) (.base (.dK e1)) (by cases t <;> decide +kernel) rfl
     | ins c fs=>cases h
theorem Zk5 (rs:RS X.K cl H S P){x:V}{d:D}{b0:Bool}(r:Rep X.K H S P x d)(h:isaD .int S d=some b0):∃n,TyX X.K H x (.type n)∧∀t,∃b,isaD t S d=some b∧PySem.W.kitOne X.K (.type n) (.type t.nm)=some b:=by
 have one:∀(n:String)(c:Ty→Bool),TyX X.K H x (.type n)→(∀t,isaD t S d=some (c t))→(∀t:Ty,kitB n t.nm=some (c t))→∃n,TyX X.K H x (.type n)∧∀t,∃b,isaD t S d=some b∧PySem.W.kitOne X.K (.type n) (.type t.nm)=some b:=
  fun n c h1 h2 h3=>⟨n,h1,fun t=>⟨c t,h2 t,kit_ty (h3 t)⟩⟩
 cases r with
 | non=>exact one "NoneType" (fun _=>false) (.base .non) (fun _=>rfl) (by intro t;cases t <;> decide +kernel)
 | bl=>exact one "bool" (fun t=>t == .bool || t == .int) (.base (.bl _)) (fun _=>rfl) (by intro t;cases t <;> decide +kernel)
 | int=>exact one "int" (fun t=>t == .int) (.base (.int _)) (fun _=>rfl) (by intro t;cases t <;> decide +kernel)
 | str y=>exact one "str" (fun t=>t == .str) (.base (.str _)) (fun _=>rfl) (by intro t;cases t <;> decide +kernel)
 | tup e q=>
   refine one "tuple" (fun t=>t == .tuple) ?_ (fun _=>rfl) (by intro t;cases t <;> decide +kernel)
   obtain⟨o,e,_⟩:=e
   exact .fTuple e
 | lst e _ _ q=>exact one "list" (fun t=>t == .list) (.base (.lst e)) (fun _=>rfl) (by intro t;cases t <;> decide +kernel)
 | dic e _ q=>exact one "dict" (fun t=>t == .dict) (Zik e.rd) (fun _=>rfl) (by intro t;cases t <;> decide +kernel)
 | scr e q=>cases h
 | obj a=>
   have h':=h
   unfold isaD at h'
   dsimp only at h'
   cases e:S a with
   | none=>rw[e] at h';cases h'
   | some mo=>
     obtain⟨_,m⟩:=rs.own a _ e
     cases mo with
     | lst ds=>
       obtain⟨xs,e1,q⟩:=m
       exact one "list" (fun t=>t == .list) (.base (.lst e1)) (fun t=>by unfold isaD;dsimp only;rw[e]) (by intro t;cases t <;> decide +kernel)
     | dic kvs=>
       obtain⟨vs,hl,e1,_,_⟩:=m
       exact one "dict" (fun t=>t == .dict) (.base (.dK e1)) (fun t=>by unfold isaD;dsimp only;rw[e]) (by intro t;cases t <;> decide +kernel)
     | ins c fs=>rw[e] at h';cases h'
theorem Zhk {α β:Type}{xs:List α}{ys:List β}{i:Int}{y:β}(hl:xs.length=ys.length)(h:ixD ys i=some y):∃(x:α) (j:Nat),atI xs i=some x∧ys[j]?=some y∧xs[j]?=some x:=by
 unfold ixD at h
 have key:∀j:Nat,j<xs.length→ixN xs.length i=some j→ys[j]?=some y→∃(x:α) (j:Nat),atI xs i=some x∧ys[j]?=some y∧xs[j]?=some x:=fun j hj hn hy=>by
  refine⟨xs[j],j,?_,hy,List.getElem?_eq_getElem hj⟩
  unfold atI
  rw[hn]
  exact List.getElem?_eq_getElem hj
 split at h
 · next h0=>
   have hj:i.toNat<ys.length:=(List.getElem?_eq_some_iff.mp h).1
   refine key i.toNat (by omega) ?_ h
   unfold ixN
   rw[if_pos h0,if_pos (by omega)]
 · next h0=>
   split at h
   · next h1=>
     have hj:(i+ys.length).toNat<ys.length:=(List.getElem?_eq_some_iff.mp h).1
     refine key (i+ys.length).toNat (by omega) ?_ h
     unfold ixN
     rw[if_neg h0,if_pos (by omega),hl]
   · cases h
theorem Zih {value slice:Expr}{a:Addr}{k:Key}{w:V}{u:Value}{vs:List (Key×V)}{Q:VK}(hu:X.A.units+1<cLine)(I:Inv X pins σ H s)(e:Rd H a (.dK vs))(hv:valV vs k=some w)(ru:RelV (kV k) u)(q:Q w H)
  (hs:subscripted slice false (.ref a) u=operate [.ref a,u] (getItem (.ref a) u)):wpAny (model X.prog X.w) X.A (subscriptTail value slice (.ref a) u) (EP X pins σ Q) X.xe s:=by
 have g:DGet H a (kV k) (some w):=by rw[← hv];exact Vn e
 exact tail_any (dict_typeIs I g) PySem.F.slot_dict_getitem.lookup (d_getItem hu I g ru fun w' s3 I3 rw'=>⟨w,H,I3,rw',q⟩) hs
theorem Znb (rs:RS X.K cl H S P){x y:V}{dx dy z:D}(rx:Rep X.K H S P x dx)(ry:Rep X.K H S P y dy)(h:ixOf S dx dy=some z)(hu:X.A.units+100<cLine){value slice:Expr}{v u:Value}(I:Inv X pins σ H s)(hv:RelV x v)(hw:RelV y u)
  (hs:subscripted slice false v u=operate [v,u] (getItem v u)) :
  wpAny (model X.prog X.w) X.A (subscriptTail value slice v u) (EP X pins σ (lift X.K cl false (Just z S) H S P)) X.xe s:=by
 have fin:∀ {w:V},Rep X.K H S P w z→lift X.K cl false (Just z S) H S P w H:=fun r=>Zw (Le.refl rs) rs r ⟨rfl,rfl⟩ (.inr rfl)
 unfold ixOf at h
 split at h
 · next kvs hk=>
   split at h
   · next k hkd=>
     obtain⟨a,vs,rfl,hl,ha,q⟩:=XH rs rx hk
     have ex:=Wo ry hkd
     subst ex
     cases hv
     rcases Zae (k:=k) hl q with ⟨e1,_⟩ |⟨d,w,e1,e2,r⟩
     · rw[e1] at h;cases h
     · rw[e1] at h;cases h
       exact Zih (by omega) I ha e2 hw (fin r) hs
   · cases h
 · split at h
   · next i=>
     cases ry
     split at h
     · next zz _=>
       split at h
       · next hz=>
         cases rx
         cases e:ixD zz.cps.toList i with
         | none=>rw[e] at h;cases h
         | some c=>
           rw[e] at h
           cases h
           obtain⟨c',j,e1,e2,e3⟩:=Zhk (xs:=zz.cps.toList) rfl e
           rw[e2] at e3;cases e3
           exact ix_str value slice pins s σ H _ _ v u _ I hv hw ⟨zz,i,c,rfl,rfl,hz,e1,fin (.str _)⟩ hs
       · cases h
     · split at h
       · next ds hsq=>
         obtain⟨a,xs,rfl,ha,q⟩:=Yl rs rx hsq
         obtain⟨w,j,e1,e2,e3⟩:=Zhk (xs:=xs) q.length h
         obtain⟨w',e4,r⟩:=q.get e2
         rw[e3] at e4;cases e4
         rcases ha with ha | ha
         · exact ix_list value slice pins s σ H _ _ v u _ I hv hw ⟨a,xs,i,w,rfl,rfl,SqL.of ha,e1,fin r⟩ hs
         · exact ix_tup value slice pins s σ H _ _ v u _ I hv hw ⟨a,xs,i,w,rfl,rfl,ha.t,e1,fin r⟩ hs
       · cases h
   · cases h
theorem Zb.cut {xs:List V}{ds:List D}(r:Zb X.K H S P xs ds)(lo hi:Option Int):Zb X.K H S P (cutV xs lo hi) (cutD ds lo hi):=by
 unfold cutV cutD
 rw[r.length]
 exact(r.drop _).take _
theorem ZgW {α:Type}{ds:List α}{lo hi:Option Int}(h:HT.sIx ds.length 0 lo=0∧HT.sIx ds.length ds.length hi=ds.length):cutD ds lo hi=ds:=by
 unfold cutD
 rw[h.1,h.2]
 simp
def rSl (X:Cx)(cl:ClsT):V→Option Int→Option Int→Hp→VK→Prop:=fun x lo hi H Q=>∃S P d z,RS X.K cl H S P∧Rep X.K H S P x d∧slOf S d lo hi=some z∧∀v H',lift X.K cl true (Just z S) H S P v H'→Q v H'
theorem Za0:SlR X (rSl X cl):=by
 intro pins s σ H x v vl vu lo hi sl Q I rx hs pl pu h
 obtain⟨S,P,d,z,rs,r,e,q⟩:=h
 unfold slOf at e
 split at e
 · next zz=>
   split at e
   · next hz=>
     cases e
     cases r
     exact sl_str pins s σ H _ v vl vu lo hi sl Q I rx hs pl pu ⟨zz,rfl,hz,q _ _ (Zt rs (.str _) rfl)⟩
   · cases e
 · next ds=>
   cases e
   cases r with
   | tup e1 q1=>
     refine ZlE pins s σ H _ v vl vu lo hi sl Q I rx hs pl pu ⟨_,_,rfl,e1.t,fun w=>?_,fun w p o hp hn=>?_⟩
     · rw[q1.length] at w
       rw[ZgW w] at q
       exact q _ _ (Zt rs (.tup e1 q1) rfl)
     · exact q _ _ (V3 rs hp hn (q1.cut lo hi))
 · next ds=>
   cases e
   cases r with
   | scr e1 q1=>exact sl_list pins s σ H _ v vl vu lo hi sl Q I rx hs pl pu ⟨_,_,rfl,e1.l,fun p hp=>q _ _ (YX rs hp (q1.cut lo hi))⟩
 · split at e
   · next ds hp=>
     cases e
     obtain⟨a,xs,rfl,ha,q1⟩:=ZM rs r hp
     exact sl_list pins s σ H _ v vl vu lo hi sl Q I rx hs pl pu ⟨_,_,rfl,SqL.of ha,fun p hp=>q _ _ (YX rs hp (q1.cut lo hi))⟩
   · cases e
end
end Sw
namespace Sw
open PySem PySem.Spec PyProof.Rows L2
section
variable {X:Cx}{cl:ClsT}{H:Hp}{S:Za}{P:Addr→Prop}
def rBi (X:Cx)(cl:ClsT)(f:Bi):List V→Hp→VK→Prop:=fun xs H Q=>∃S P ds z,RS X.K cl H S P∧Zb X.K H S P xs ds∧biD f S ds=some z∧∀v H',lift X.K cl true (Just z S) H S P v H'→Q v H'
theorem rep1 {xs:List V}{d:D}(r:Zb X.K H S P xs [d]):∃x,xs=[x]∧Rep X.K H S P x d:=by
 cases r with
 | cons a b=>cases b;exact⟨_,rfl,a⟩
theorem rep2 {xs:List V}{d e:D}(r:Zb X.K H S P xs [d,e]):∃x y,xs=[x,y]∧Rep X.K H S P x d∧Rep X.K H S P y e:=by
 cases r with
 | cons a b=>cases b with
   | cons b c=>cases c;exact⟨_,_,rfl,a,b⟩
theorem bi_len:CallR X (.builtin "len") (rBi X cl .len):=by
 intro pins s σ H xs us Q I r ⟨S,P,ds,z,rs,rp,h,q⟩
 have fin:∀n:Nat,lift X.K cl true (Just (.int n) S) H S P (.int n) H:=fun n=>Zt rs (.int _) rfl
 change lenF S ds=some z at h
 unfold lenF at h
 split at h <;> try cases h
 · next x=>
   obtain⟨y,rfl,ry⟩:=rep1 rp
   split at h
   · next hz=>cases h;cases ry;exact call_len pins s σ H _ us _ I r ⟨_,_,rfl,⟨hz,rfl⟩,q _ _ (fin _)⟩
   · cases h
 · next ys=>
   obtain⟨y,rfl,ry⟩:=rep1 rp
   cases ry with
   | scr e qs=>exact call_len pins s σ H _ us _ I r ⟨_,_,rfl,.inl ⟨_,e.l,qs.length.symm⟩,q _ _ (fin _)⟩
 · next d _ _=>
   obtain⟨y,rfl,ry⟩:=rep1 rp
   split at h
   · next ys hs=>
     cases h
     obtain⟨a,vs,rfl,ha,qs⟩:=Yl rs ry hs
     refine call_len pins s σ H _ us _ I r ⟨_,_,rfl,?_,q _ _ (fin _)⟩
     rcases ha with ha | ha
     · exact .inl ⟨_,SqL.of ha,qs.length.symm⟩
     · exact .inr ⟨_,ha.t,qs.length.symm⟩
   · next hs=>
     cases hd:dicD S d with
     | none=>rw[hd] at h;cases h
     | some kvs=>
       rw[hd] at h
       cases h
       obtain⟨a,vs,rfl,hl,ha,qs⟩:=XH rs ry hd
       refine ZgT pins s σ H _ us _ I r ⟨a,_,rfl,ha,?_⟩
       have e:((kvs.map (·.1)).zip vs).length=kvs.length:=by rw[List.length_zip,List.length_map];omega
       rw[e]
       exact q _ _ (fin _)
theorem Zl7:CallR X (.builtin "abs") (rBi X cl .abs):=by
 intro pins s σ H xs us Q I r ⟨S,P,ds,z,rs,rp,h,q⟩
 change absF ds=some z at h
 unfold absF at h
 split at h <;> try cases h
 obtain⟨y,rfl,ry⟩:=rep1 rp
 cases ry
 exact call_abs pins s σ H _ us _ I r ⟨_,rfl,q _ _ (Zt rs (.int _) rfl)⟩
theorem Zky (hc:X.calm=true):CallR X (.builtin "min") (rBi X cl .min2):=by
 intro pins s σ H xs us Q I r ⟨S,P,ds,z,rs,rp,h,q⟩
 change minF ds=some z at h
 unfold minF at h
 split at h <;> try cases h
 obtain⟨y,y',rfl,ry,ry'⟩:=rep2 rp
 cases ry;cases ry'
 exact call_min2 hc pins s σ H _ us _ I r ⟨_,_,rfl,q _ _ (Zt rs (.int _) rfl)⟩
theorem Zkx (hc:X.calm=true):CallR X (.builtin "max") (rBi X cl .max2):=by
 intro pins s σ H xs us Q I r ⟨S,P,ds,z,rs,rp,h,q⟩
 change maxF ds=some z at h
 unfold maxF at h
 split at h <;> try cases h
 obtain⟨y,y',rfl,ry,ry'⟩:=rep2 rp
 cases ry;cases ry'
 exact call_max2 hc pins s σ H _ us _ I r ⟨_,_,rfl,q _ _ (Zt rs (.int _) rfl)⟩
theorem Zmb:CallR X (.type "int") (rBi X cl .int):=by
 intro pins s σ H xs us Q I r ⟨S,P,ds,z,rs,rp,h,q⟩
 change intF ds=some z at h
 unfold intF at h
 split at h <;> try cases h
 · obtain⟨y,rfl,ry⟩:=rep1 rp
   cases ry
   exact call_int1 pins s σ H _ us _ I r (.inl ⟨_,rfl,q _ _ (Zt rs (.int _) rfl)⟩)
 · obtain⟨y,rfl,ry⟩:=rep1 rp
   cases ry
   exact call_int1 pins s σ H _ us _ I r (.inr ⟨_,rfl,q _ _ (Zt rs (.int _) rfl)⟩)
theorem ZiH:CallR X (.type "tuple") (rBi X cl .tuple):=by
 intro pins s σ H xs us Q I r ⟨S,P,ds,z,rs,rp,h,q⟩
 change tupF S ds=some z at h
 unfold tupF at h
 split at h <;> try cases h
 next d=>
 obtain⟨y,rfl,ry⟩:=rep1 rp
 cases e:seqD S d with
 | none=>rw[e] at h;cases h
 | some ys=>
   rw[e] at h
   cases h
   obtain⟨a,vs,rfl,ha,qs⟩:=Yl rs ry e
   rcases ha with ha | ha
   · exact ZbE pins s σ H _ us _ I r ⟨a,vs,rfl,.inl ⟨SqL.of ha,fun l o hl hn=>q _ _ (V3 rs hl hn qs)⟩⟩
   · exact ZbE pins s σ H _ us _ I r ⟨a,vs,rfl,.inr ⟨ha.t,q _ _ (Zt rs (.tup ha qs) rfl)⟩⟩
theorem Zkw:CallR X (.type "list") (rBi X cl .list):=by
 intro pins s σ H xs us Q I r ⟨S,P,ds,z,rs,rp,h,q⟩
 change lstF S ds=some z at h
 unfold lstF at h
 split at h <;> try cases h
 next d=>
 obtain⟨y,rfl,ry⟩:=rep1 rp
 cases e:seqD S d with
 | none=>rw[e] at h;cases h
 | some ys=>
   rw[e] at h
   cases h
   obtain⟨a,vs,rfl,ha,qs⟩:=Yl rs ry e
   refine call_list_of pins s σ H _ us _ I r ⟨a,vs,rfl,?_,fun l hl=>q _ _ (YX rs hl qs)⟩
   rcases ha with ha | ha
   · exact .inl (SqL.of ha)
   · exact .inr ha.t
theorem ints_rep:∀ {ds:List D} {xs:List V} {ns:List Int},Zb X.K H S P xs ds→Ww ds=some ns→xs=ns.map V.int
 | [],_,_,.nil,h=>by cases h;rfl
 | .int i :: r,_,ns,.cons (.int _) t,h=>by
   rw[Ww] at h
   cases e:Ww r with
   | none=>rw[e] at h;cases h
   | some ms=>rw[e] at h;cases h;rw[List.map_cons,ints_rep t e]
 | .non :: _,_,_,.cons _ _,h=>by cases h
 | .bl _ :: _,_,_,.cons _ _,h=>by cases h
 | .str _ :: _,_,_,.cons _ _,h=>by cases h
 | .tup _ :: _,_,_,.cons _ _,h=>by cases h
 | .lst _ :: _,_,_,.cons _ _,h=>by cases h
 | .dic _ _ :: _,_,_,.cons _ _,h=>by cases h
 | .scr _ :: _,_,_,.cons _ _,h=>by cases h
 | .obj _ :: _,_,_,.cons _ _,h=>by cases h
theorem Zbf:∀ {ds:List D} {xs:List V} {ns:List Bool},Zb X.K H S P xs ds→blsD ds=some ns→xs=ns.map V.bl
 | [],_,_,.nil,h=>by cases h;rfl
 | .bl i :: r,_,ns,.cons (.bl _) t,h=>by
   rw[blsD] at h
   cases e:blsD r with
   | none=>rw[e] at h;cases h
   | some ms=>rw[e] at h;cases h;rw[List.map_cons,Zbf t e]
 | .non :: _,_,_,.cons _ _,h=>by cases h
 | .int _ :: _,_,_,.cons _ _,h=>by cases h
 | .str _ :: _,_,_,.cons _ _,h=>by cases h
 | .tup _ :: _,_,_,.cons _ _,h=>by cases h
 | .lst _ :: _,_,_,.cons _ _,h=>by cases h
 | .dic _ _ :: _,_,_,.cons _ _,h=>by cases h
 | .scr _ :: _,_,_,.cons _ _,h=>by cases h
 | .obj _ :: _,_,_,.cons _ _,h=>by cases h
theorem Zmf (hc:X.calm=true):CallR X (.builtin "sum") (rBi X cl .sum):=by
 intro pins s σ H xs us Q I r ⟨S,P,ds,z,rs,rp,h,q⟩
 change sumF S ds=some z at h
 unfold sumF at h
 split at h <;> try cases h
 next d=>
 obtain⟨y,rfl,ry⟩:=rep1 rp
 split at h
 · next ys hs=>
   cases e:Ww ys with
   | none=>rw[e] at h;cases h
   | some ns=>
     rw[e] at h
     cases h
     obtain⟨a,vs,rfl,ha,qs⟩:=ZM rs ry hs
     have ev:=ints_rep qs e
     subst ev
     exact cr_sum hc pins s σ H _ us _ I r ⟨a,ns,rfl,SqL.of ha,q _ _ (Zt rs (.int _) rfl)⟩
 · cases h
theorem Zl8 (hc:X.calm=true):CallR X (.builtin "all") (rBi X cl .all):=by
 intro pins s σ H xs us Q I r ⟨S,P,ds,z,rs,rp,h,q⟩
 change allF S ds=some z at h
 unfold allF at h
 split at h <;> try cases h
 next d=>
 obtain⟨y,rfl,ry⟩:=rep1 rp
 split at h
 · next ys hs=>
   cases e:blsD ys with
   | none=>rw[e] at h;cases h
   | some ns=>
     rw[e] at h
     cases h
     obtain⟨a,vs,rfl,ha,qs⟩:=ZM rs ry hs
     have ev:=Zbf qs e
     subst ev
     exact cr_all hc pins s σ H _ us _ I r ⟨a,ns,rfl,SqL.of ha,q _ _ (Zt rs (.bl _) rfl)⟩
 · cases h
theorem Zl9 (hc:X.calm=true):CallR X (.builtin "any") (rBi X cl .any):=by
 intro pins s σ H xs us Q I r ⟨S,P,ds,z,rs,rp,h,q⟩
 change anyF S ds=some z at h
 unfold anyF at h
 split at h <;> try cases h
 next d=>
 obtain⟨y,rfl,ry⟩:=rep1 rp
 split at h
 · next ys hs=>
   cases e:blsD ys with
   | none=>rw[e] at h;cases h
   | some ns=>
     rw[e] at h
     cases h
     obtain⟨a,vs,rfl,ha,qs⟩:=ZM rs ry hs
     have ev:=Zbf qs e
     subst ev
     exact cr_any hc pins s σ H _ us _ I r ⟨a,ns,rfl,SqL.of ha,q _ _ (Zt rs (.bl _) rfl)⟩
 · cases h
theorem Zme:CallR X (.type "str") (rBi X cl .str):=by
 intro pins s σ H xs us Q I r ⟨S,P,ds,z,rs,rp,h,q⟩
 change strF ds=some z at h
 unfold strF at h
 split at h <;> try cases h
 · obtain⟨y,rfl,ry⟩:=rep1 rp
   cases ry
   exact SkE.call_str_str pins s σ H _ us _ I r ⟨_,rfl,q _ _ (Zt rs (.str _) rfl)⟩
 · obtain⟨y,rfl,ry⟩:=rep1 rp
   cases ry
   split at h
   · next hz=>cases h;exact call_str_int pins s σ H _ us _ I r ⟨_,rfl,hz,q _ _ (Zt rs (.str _) rfl)⟩
   · cases h
theorem Zkz (hg:X.A.guards=some [])(hu:X.A.units+100<cLine):CallR X (.builtin "repr") (rBi X cl .repr):=by
 intro pins s σ H xs us Q I r ⟨S,P,ds,z,rs,rp,h,q⟩
 change Wf S ds=some z at h
 unfold Wf at h
 split at h <;> try cases h
 next d=>
 obtain⟨y,rfl,ry⟩:=rep1 rp
 split at h
 · next p hp=>
   split at h
   · next hz=>
     cases h
     obtain⟨h1,h2,h3,h4⟩:=hz
     obtain⟨dp,pl⟩:=XW rs ry hp
     obtain⟨u,rfl,ru⟩:=vals1 r
     have fin:∀(h':Heap)(t:Tok)(tk:Nat),(∀b o,s.heap.get? b=some o→h'.get? b=some o)→EP X pins σ Q (.str p.shown t) { s with heap:=h',toks:=tk }:=fun h' t tk hk=>
      ⟨.str p.shown,H,I.kept hk,⟨_,rfl⟩,q _ _ (Zt rs (.str _) rfl)⟩
     have same:∀b o,s.heap.get? b=some o→s.heap.get? b=some o:=fun _ _ e=>e
     cases dp with
     | non=>cases ru;exact PySem.P.repr_of_none (fin s.heap _ _ same)
     | bl b=>cases ru;exact PySem.P.repr_of_bool (fin s.heap _ _ same)
     | int i=>
       obtain⟨t,rfl⟩:=ru
       have hi:i.natAbs.log2<1920:=by rw[PyData.showable] at h1;exact of_decide_eq_true h1
       exact PySem.P.repr_of_int hi (fin s.heap _ _ same)
     | str x=>
       obtain⟨t,rfl⟩:=ru
       have hl:(reprText x).length≤sizeLine:=by rw[PyData.shown] at h4;omega
       exact PySem.P.repr_of_str (fin s.heap _ _ same) hl
     | lst e1 e2=>
       obtain⟨as,rd⟩:=Z7 I (.lst e1 e2) ru
       cases ru
       exact repr_of_reads' rd h1 (by rw[h2];intro z;cases z) hg (by omega) same (fun h' u tk hk=>fin h' u tk hk) (by omega)
     | tup e1 e2=>
       obtain⟨as,rd⟩:=Z7 I (.tup e1 e2) ru
       cases ru
       exact repr_of_reads' rd h1 (by rw[h2];intro z;cases z) hg (by omega) same (fun h' u tk hk=>fin h' u tk hk) (by omega)
   · cases h
 · next hp=>
   split at h
   · next hz=>
     cases h
     obtain⟨h1,h2,h3,h4⟩:=hz
     obtain⟨u,rfl,ru⟩:=vals1 r
     obtain⟨as,rd,hs⟩:=X2 I rs d ry h1 ru
     have fin:∀(h':Heap)(t:Tok)(tk:Nat),(∀b o,s.heap.get? b=some o→h'.get? b=some o)→EP X pins σ Q (.str d.toQ.shown t) { s with heap:=h',toks:=tk }:=fun h' t tk hk=>
      ⟨.str d.toQ.shown,H,I.kept hk,⟨_,rfl⟩,q _ _ (Zt rs (.str _) rfl)⟩
     have same:∀b o,s.heap.get? b=some o→s.heap.get? b=some o:=fun _ _ e=>e
     obtain⟨a,rfl⟩:∃a,u=Value.ref a:=by
      cases ry <;> first | (cases ru;exact⟨_,rfl⟩) | (unfold Zl at hp;cases hp;done) | (rw[D.whole] at h1;cases h1)
     exact repr_of_reads' rd h2 (fun _=>hs) hg (by omega) same (fun h' u tk hk=>fin h' u tk hk) (by omega)
   · cases h
end
end Sw
namespace Sw
open PySem PySem.Spec PyProof.Rows L2
section
variable {prog:Program}{w:World}{A:Around}{E:Value→Shared→Prop}{s:Shared}
theorem ZiK {l:Addr}{vs:List Value}{R:List Value→Shared→Prop}(hz:vs.length≤sizeLine)(tp:IsTup s.heap l vs.toArray)
  (fin:R vs { s with heap:=(s.heap.push (seqObj "list" #[] 0)).update s.heap.objs.size (Obj.mapSeq (· ++ vs.toArray)) }):wpAny (model prog w) A (collect (.ref l)) R E s:=by
 obtain⟨ob,at0,kc,m,kd⟩:=tp
 have at1:(s.heap.push (seqObj "list" #[] 0)).get? l=some ob:=Heap.get?_push_of_some _ at0
 have nw:(s.heap.push (seqObj "list" #[] 0)).get? s.heap.objs.size=some (seqObj "list" #[] 0):=Heap.get?_push_size _ rfl
 unfold collect
 refine wpAny_bind (wpAny_runValue (codeAny_builtin entry_proto_collect' ?step))
 case step=>
  show wpAny _ _ (do again (.builtin "list.__iadd__" ⟨[← newList [],.ref l],[]⟩)) _ _ s
  refine wpAny_bind (wpAny_newList (wpAny_pure ⟨Code.quiet_builtin _ (by decide +kernel),codeAny_builtin entry_list_iadd' ?ext⟩))
  case ext=>
   show wpAny _ _ (Builtin.List.listExtendWith (.ref s.heap.objs.size) (.ref l) (.ref s.heap.objs.size)) _ _ { s with heap:=s.heap.push (seqObj "list" #[] 0) }
   unfold Builtin.List.listExtendWith
   refine wpAny_bind (wpAny_typeOf (T:= "tuple") ⟨ob,at1,kc⟩ ?more)
   case more=>
    rw[if_pos (by simp)]
    refine wpAny_bind (listItems_at at1 kd (wpAny_bind (listItems_at (xs:=#[]) (n:=0) nw rfl ?rest)))
    case rest=>
     rw[if_neg (by simp)]
     refine wpAny_bind (listUpdate_at (xs:=#[]) (n:=0) nw rfl ?last (Nat.zero_le _) (by show(#[]++vs.toArray).size≤sizeLine+1;simp only[Array.size_append,List.size_toArray,List.length_nil];omega))
     case last=>
      refine wpAny_pure ?_
      show wpAny (model prog w) A (do
        let o ← load s.heap.objs.size
        match o.data with
        | .seq xs _=>pure xs.toList
        | _=>unsupported "internal:collect") R E { s with heap:=(s.heap.push (seqObj "list" #[] 0)).update s.heap.objs.size (Obj.mapSeq (· ++ vs.toArray)) }
      refine wpAny_bind (wpAny_load (get?_update_seq nw _) ?_)
      show wpAny _ _ (pure ((#[]:Array Value)++vs.toArray).toList) R E _
      have ev:((#[]:Array Value)++vs.toArray).toList=vs:=by simp
      rw[ev]
      exact wpAny_pure fin
theorem ZjD {l:Addr}{vs:List Value}{R:Value→Shared→Prop}(hz:vs.length≤sizeLine)(tp:IsTup s.heap l vs.toArray)
  (fin:∀E':Value→Shared→Prop,wpAny (model prog w) A.in1.in1 (Builtin.«list.sort» ⟨[.ref (s.heap.objs.size+1)],[]⟩) (fun f s'=>f=.done (.ret .none)∧R (.ref (s.heap.objs.size+1)) s') E' { s with heap:=PySem.W.copyHeap s.heap vs }) :
  wpAny (model prog w) A (call (.builtin "sorted") [.ref l]) R E s:=by
 refine call_function_entry_kw kind_sorted plain_sorted entry_sorted (PyProof.Rows.args_sorted1 _) ?go
 case go=>
  unfold Builtin.«sorted»
  refine wpAny_bind (m:=checkCount "sorted" 1 1 _) (wpAny_pure (wpAny_bind (ZiK hz tp (wpAny_bind (wpAny_newList ?made hz)))))
  case made=>
   have big:((s.heap.push (seqObj "list" #[] 0)).update s.heap.objs.size (Obj.mapSeq (· ++ vs.toArray))).objs.size=s.heap.objs.size+1:=by
    rw[Heap.size_update];exact PyProof.Rows.size_push' _ _
   show wpAny _ _ _ _ _ { s with heap:=PySem.W.copyHeap s.heap vs }
   rw[big]
   refine wpAny_bind (wpAny_holding (wpAny_call_entry_kw PyProof.Rows.slot_list_sort ⟨_,PySem.W.copyHeap_at s.heap vs,rfl⟩ entry_list_sort ?inner (PyProof.Rows.args_list_sort _)))
   case inner=>
    show wpAny (model prog w) A.in1.in1 (Builtin.«list.sort» ⟨[.ref (s.heap.objs.size+1)],[]⟩) _ _ _
    refine wpAny_mono (fin _) (fun f s' z=>?_) fun _ _ z=>z
    obtain⟨z1,z2⟩:=z
    subst z1
    exact⟨_,rfl,wpAny_pure ⟨_,rfl,z2⟩⟩
end
section
variable {X:Cx}{cl:ClsT}{H:Hp}{S:Za}{P:Addr→Prop}
theorem U4:∀ {ps:List (V×D)},(∀p∈ps,Rep X.K H S P p.1 p.2)→Zb X.K H S P (ps.map (·.1)) (ps.map (·.2))
 | [],_=>.nil
 | p :: r,h=>.cons (h p (by simp)) (U4 fun q hq=>h q (List.mem_cons_of_mem _ hq))
theorem UT:∀ {vs:List V} {ds:List D},Zb X.K H S P vs ds→(vs.zip ds).map (·.1)=vs∧(vs.zip ds).map (·.2)=ds∧∀p∈vs.zip ds,Rep X.K H S P p.1 p.2
 | _,_,.nil=>⟨rfl,rfl,fun _ h=>by cases h⟩
 | _,_,.cons h t=>by
   obtain⟨a,b,c⟩:=UT t
   refine⟨by simp[a],by simp[b],fun p hp=>?_⟩
   rw[List.zip_cons_cons] at hp
   rcases List.mem_cons.mp hp with e | hp
   · rw[e];exact h
   · exact c p hp
theorem ZbM:∀ {ps:List (V×D)} {us:List Value},Vals (ps.map (·.1)) us→PySem.W.EachIs (fun u (p:V×D)=>RelV p.1 u) us ps
 | [],_,.nil=>.nil
 | _ :: _,_,.cons h t=>.cons h (ZbM t)
theorem Zcd:∀ {us:List Value} {ps:List (V×D)},PySem.W.EachIs (fun u (p:V×D)=>RelV p.1 u) us ps→Vals (ps.map (·.1)) us
 | _,_,.nil=>.nil
 | _,_,.cons h t=>.cons h (Zcd t)
theorem ZaC {h:Heap}:∀ {us:List Value} {ps:List (V×D)},PySem.W.EachIs (fun u (p:V×D)=>RelV p.1 u) us ps→(∀u,∀p∈ps,RelV p.1 u→∃as,Reads h u p.2.toP as)→PySem.W.EachIs (fun u (p:V×D)=>∃as,Reads h u p.2.toP as) us ps
 | _,_,.nil,_=>.nil
 | _,_,.cons a t,f=>.cons (f _ _ (by simp) a) (ZaC t fun u p hp=>f u p (List.mem_cons_of_mem _ hp))
theorem ZbL {α β:Type}{R:α→β→Prop}:∀ {as:List α} {bs:List β},PySem.W.EachIs R as bs→as.length=bs.length
 | _,_,.nil=>rfl
 | _,_,.cons _ t=>by rw[List.length_cons,List.length_cons,ZbL t]
theorem Zgv (ps:List (V×D)):(ps.mergeSort (PySem.W.dataLe false fun p=>p.2.toP)).map (·.2)=Xf (ps.map (·.2)):=by
 unfold Xf
 refine List.map_mergeSort (f:=fun p:V×D=>p.2) (r:=PySem.W.dataLe false fun p:V×D=>p.2.toP) (s:=PySem.W.dataLe false D.toP) fun a _ b _=>rfl
theorem Zb4:∀(r:List Str)(p:Str),PyProof.Rows.risingS p r=true→(p :: r).Pairwise fun a b=>PySem.W.dataLe false D.toP (.str a) (.str b)=true
 | [],_,_=>List.pairwise_singleton _ _
 | x :: r,p,h=>by
   rw[PyProof.Rows.risingS,Bool.and_eq_true] at h
   have ih:=Zb4 r x h.2
   have t:PySem.W.TotalLe (PySem.W.dataLe false D.toP):=PySem.W.sortLe_total _ _ _
   have hp:PySem.W.dataLe false D.toP (.str p) (.str x)=true:=by
    show(!PySem.W.dataLt (.str x) (.str p))=true
    rw[PySem.W.dataLt_str,← PyProof.Rows.ltCps_eq]
    exact h.1
   refine List.pairwise_cons.mpr ⟨fun y hy=>?_,ih⟩
   rcases List.mem_cons.mp hy with e | hy
   · rw[e];exact hp
   · exact t.trans _ _ _ hp ((List.pairwise_cons.mp ih).1 y hy)
theorem ZeS {ys xs:List Str}(hp:ys.Perm xs)(hs:PyProof.Rows.sortedS ys=true):ys.map D.str=Xf (xs.map .str):=by
 have t:PySem.W.TotalLe (PySem.W.dataLe false D.toP):=PySem.W.sortLe_total _ _ _
 have p1:(ys.map D.str).Perm (Xf (xs.map .str)):=(hp.map _).trans (List.mergeSort_perm _ _).symm
 have s2:(Xf (xs.map D.str)).Pairwise fun a b=>PySem.W.dataLe false D.toP a b=true:=List.pairwise_mergeSort t.trans (fun a b=>by simpa using t.total a b) _
 have s1:(ys.map D.str).Pairwise fun a b=>PySem.W.dataLe false D.toP a b=true:=by
  rw[List.pairwise_map]
  cases ys with
  | nil=>exact List.Pairwise.nil
  | cons y r=>exact Zb4 r y hs
 refine p1.eq_of_pairwise (fun a b ha hb h1 h2=>?_) s1 s2
 obtain⟨x,_,rfl⟩:=List.mem_map.mp ha
 obtain⟨y,_,rfl⟩:=List.mem_map.mp (p1.symm.subset hb)
 have h1:(!PySem.W.dataLt (.str y) (.str x))=true:=h1
 have h2:(!PySem.W.dataLt (.str x) (.str y))=true:=h2
 rw[PySem.W.dataLt_str] at h1 h2
 have e:x.cps.toList=y.cps.toList:=by
  simp only[Bool.not_eq_true',decide_eq_false_iff_not] at h1 h2
  exact List.le_antisymm (List.not_lt.mp h1) (List.not_lt.mp h2)
 rw[PySem.W.str_of_cps e]
theorem Zb8:∀ {ks:List Key} {xs:List Str},ZcI ks=some xs→ks=xs.map Sum.inr
 | [],_,h=>by cases h;rfl
 | k :: r,xs,h=>by
   unfold ZcI at h
   split at h
   · next x ys e1 e2=>
     cases h
     rw[Zb8 e2,List.map_cons]
     cases k with
     | inl i=>cases e1
     | inr z=>cases e1;rfl
   · cases h
theorem ZgP (hca:X.calm=true)(hu:X.A.units+100<cLine):CallR X (.builtin "sorted") (rBi X cl .sorted):=by
 intro pins s σ H xs us Q I r ⟨S,P,ds,z,rs,rp,h,q⟩
 change Yx S ds=some z at h
 unfold Yx at h
 split at h <;> try cases h
 next d=>
 obtain⟨y,rfl,ry⟩:=rep1 rp
 split at h
 · next ys hs=>
   split at h
   · next hok=>
     cases h
     unfold Wg at hok
     simp only[Bool.and_eq_true,Bool.or_eq_true,List.all_eq_true,decide_eq_true_eq] at hok
     obtain⟨⟨⟨hpure,hal⟩,hk⟩,hdep⟩:=hok
     obtain⟨a,vs,rfl,ha,qs⟩:=Yl rs ry hs
     obtain⟨e1,e2,e3⟩:=UT qs
     have hp1:∀y∈ys,y.pure=true:=by
      have:∀l:List D,D.pureAll l=true→∀y∈l,y.pure=true:=by
       intro l
       induction l with
       | nil=>intro _ y hy;cases hy
       | cons x t ih=>
         intro hh y hy
         rw[D.pureAll,Bool.and_eq_true] at hh
         rcases List.mem_cons.mp hy with e | hy
         · rw[e];exact hh.1
         · exact ih hh.2 y hy
      exact this ys hpure
     have hmem:∀p∈vs.zip ys,p.2∈ys:=fun p hp=>(List.of_mem_zip hp).2
     have hAl:PySem.W.AllAlike ((vs.zip ys).map fun p=>p.2.toP):=by
      intro u hu' v hv
      obtain⟨p,hp,rfl⟩:=List.mem_map.mp hu'
      obtain⟨p',hp',rfl⟩:=List.mem_map.mp hv
      exact hal _ (hmem p hp) _ (hmem p' hp')
     have hSo:PySem.W.Sortable ((vs.zip ys).map fun p=>p.2.toP):=by
      rcases hk with hk | hk
      · refine .inl fun u hu'=>?_
        obtain⟨p,hp,rfl⟩:=List.mem_map.mp hu'
        have:=hk _ (hmem p hp)
        unfold Za5 at this
        split at this
        · next x t e=>rw[e];exact⟨x.toP,D.toPs t,by rw[D.toP,D.toPs]⟩
        · cases this
      · refine .inr fun u hu'=>?_
        obtain⟨p,hp,rfl⟩:=List.mem_map.mp hu'
        have h1:=hk _ (hmem p hp)
        have h2:=hp1 _ (hmem p hp)
        revert h1 h2
        cases p.2 <;> intro h1 h2 <;> simp_all [ZaS,D.toP,D.pure]
     have out:∀(its:List Value),Vals vs its→vs.length≤sizeLine→(∀E':Value→Shared→Prop,∀o:List Value,o.length=(vs.zip ys).length→PySem.W.EachIs (fun u (p:V×D)=>RelV p.1 u) o ((vs.zip ys).mergeSort (PySem.W.dataLe false fun p=>p.2.toP))→
       EP X pins σ Q (.ref (s.heap.objs.size+1)) { s with heap:=PyProof.Rows.sortedAll s.heap its (List.toArray o) }):=by
      intro its rv hz E' o hl ho
      obtain⟨ep,he'⟩:=PyProof.Rows.sortedAll_at s.heap its o.toArray
      have hv:=Zcd ho
      have hlen:(((vs.zip ys).mergeSort (PySem.W.dataLe false fun p=>p.2.toP)).map (·.1)).length≤sizeLine:=by
       rw[List.length_map,List.length_mergeSort,List.length_zip]
       omega
      refine⟨.ref _,upd H (s.heap.objs.size+1) (.lst (((vs.zip ys).mergeSort (PySem.W.dataLe false fun p=>p.2.toP)).map (·.1))),I.laid (t':=s.toks) (fun _ _=>PyProof.Rows.sortedAll_old) (Nat.le_succ _) ⟨hlen,o,ep,hv,he'⟩,rfl,q _ _ ?_⟩
      have hrep:Zb X.K H S P (((vs.zip ys).mergeSort (PySem.W.dataLe false fun p=>p.2.toP)).map (·.1)) (Xf ys):=by
       have:=U4 (X:=X) (H:=H) (S:=S) (P:=P) (ps:=(vs.zip ys).mergeSort (PySem.W.dataLe false fun p=>p.2.toP)) fun p hp=>e3 p (List.mem_mergeSort.mp hp)
       rw[Zgv,e2] at this
       exact this
      exact YX rs (I.hok.fresh (Nat.le_succ _)) hrep
     have hUn:∀p∈vs.zip ys,X.A.units+2+p.2.toP.depth<cLine:=fun p hp=>by have:=hdep _ (hmem p hp);omega
     have rd:∀(its:List Value),Vals vs its→PySem.W.EachIs (fun u (p:V×D)=>RelV p.1 u) its (vs.zip ys)∧PySem.W.EachIs (fun u (p:V×D)=>∃as,Reads s.heap u p.2.toP as) its (vs.zip ys):=by
      intro its rv
      have e:=ZbM (ps:=vs.zip ys) (us:=its) (by rw[e1];exact rv)
      exact⟨e,ZaC e fun u p hp hr=>Z7 I (Zcz rs p.2 (hp1 _ (hmem p hp)) (e3 p hp)) hr⟩
     rw[Vals.ref1 r]
     rcases ha with ha | ha
     · obtain⟨its,rv,hl,hz⟩:=I.list (SqL.of ha)
       obtain⟨ea,eb⟩:=rd its rv
       refine PySem.W.sorted_data hl.isList ea eb hAl hSo (by rw[List.length_zip];omega) hUn fun o h1 h2=>out its rv hz (fun _ _=>False) o h1 h2
     · obtain⟨its,rv,hl,hz⟩:=I.tuple ha.t
       obtain⟨ea,eb⟩:=rd its rv
       have eb':PySem.W.EachIs (fun u (p:V×D)=>∃as,Reads (PySem.W.sortingHeap (PySem.W.copyHeap s.heap its) (s.heap.objs.size+1) its) u p.2.toP as) its (vs.zip ys):=eb.mono fun _ _ ⟨as,r⟩=>⟨as,PyProof.Rows.Reads.keeps (fun _ _=>PySem.W.sorting_copy_old) r⟩
       have hzi:its.length≤sizeLine:=by rw[← rv.length];exact hz
       refine ZjD hzi (show IsTup s.heap a its.toArray from hl) fun E'=>?_
       refine PySem.W.list_sort_vals (s:={ s with heap:=PySem.W.copyHeap s.heap its }) (PySem.W.copyHeap_at s.heap its) (PySem.W.SortsAt.data (s:={ s with heap:=PySem.W.sortingHeap (PySem.W.copyHeap s.heap its) (s.heap.objs.size+1) its }) (PySem.W.each_map (R:=fun v d=>∃as,Reads (PySem.W.sortingHeap (PySem.W.copyHeap s.heap its) (s.heap.objs.size+1) its) v d as) (fun p:V×D=>p.2.toP) eb') hAl hSo ?_) hzi ⟨rfl,?_⟩
       · intro d hd
         obtain⟨p,hp,rfl⟩:=List.mem_map.mp hd
         have:=hUn p hp
         show X.A.in1.in1.units+_<cLine
         exact this
       · exact out its rv hz E' _ (by rw[PySem.W.sortVals_length false rfl];exact ZbL ea) (PySem.W.sortVals_data false ea eb' hAl)
   · cases h
 · split at h
   · next kvs hk=>
     unfold Zh7 at h
     split at h
     · next xs hx=>
       split at h
       · next h64=>
         cases h
         have ek:=Zb8 hx
         obtain⟨a,vs,rfl,hl,ha,qs⟩:=XH rs ry hk
         refine call_sortedD hca pins s σ H _ us _ I r ⟨_,_,xs,rfl,ha,?_,h64,fun ys p hp hs hn=>?_⟩
         · rw[Xs _ _ (by rw[List.length_map,hl]),ek]
         · refine q _ _ ?_
           have hrep:Zb X.K H S P (ys.map V.str) (Xf (xs.map .str)):=by
            rw[← ZeS hp hs]
            clear hs hp
            induction ys with
            | nil=>exact .nil
            | cons y t ih=>exact .cons (.str y) ih
           exact YX rs hn hrep
       · cases h
     · cases h
   · cases h
end
end Sw
namespace Sw
open PySem PySem.Spec PyProof.Rows L2
def catL (its:Nat→Array Value):Nat→Nat→Array Value→Array Value
 | _,0,acc=>acc
 | i,k+1,acc=>catL its (i+1) k (acc++its i)
theorem ZbG {its:Nat→Array Value}:∀(k i:Nat)(acc:Array Value),acc.size≤(catL its i k acc).size
 | 0,_,_=>Nat.le_refl _
 | k+1,i,acc=>Nat.le_trans (by rw[Array.size_append];omega) (ZbG k (i+1) (acc++its i))
theorem ZgN (a b:Value):argsOk "sum" ⟨[a,b],[]⟩:=by unfold argsOk;kernel_rfl
theorem ZeT:isSubtype (.type "list") (.type "str")=pure false:=by rw[isSubtype_type];kernel_rfl
theorem Zct:isSubtype (.type "list") (.type "bytes")=pure false:=by rw[isSubtype_type];kernel_rfl
theorem QH:isSubtype (.type "list") (.type "bytearray")=pure false:=by rw[isSubtype_type];kernel_rfl
section
variable {prog:Program}{w:World}{A:Around}{R:Result→Shared→Prop}{I ax S:Addr}{items:Array Value}
theorem Zig (hh:A.in1.handled=none)(hne:ax≠I)(hSI:S≠I)(hSa:S≠ax)(ad:Nat→Addr)(its:Nat→Array Value)(hv:∀i,i<items.size→items[i]?=some (.ref (ad i))) :
  ∀(k i:Nat)(s:Shared)(t:Addr)(c:Nat)(acc:Array Value),items.size - i=k→i≤items.size→(s.heap.IsListIter I ax i∧s.heap.IsList ax items)→
  s.heap.get? S=some { cls:=.type "list",dict:=none,data:=.seq #[.ref t] c,slots:=#[] }→t≠I→t≠S→(∃m,PySem.IsL s.heap t acc m)→
  (∀j,i≤j→j<items.size→ad j≠I∧ad j≠S∧∃m,PySem.IsL s.heap (ad j) (its j) m)→(catL its i k acc).size≤sizeLine→
  (∀h' tk t',(∀b o,b≠I→b≠S→s.heap.get? b=some o→h'.get? b=some o)→(∃m,PySem.IsL h' t' (catL its i k acc) m)→(k=0→t'=t)→(0<k→S<t')→R (.ok (.ret (.ref t'))) { s with heap:=h',toks:=tk })→
  codeAny (model prog w) A (.builtin "sum.loop" ⟨[.ref I,.ref S,rawInt 2,rawInt 0],[]⟩) R s:=by
 intro k
 have W:=Walks.list (prog:=prog) (w:=w) (A:=A.in1) hh I ax hne items
 induction k with
 | zero=>
   intro i s t c acc hk hi hst hS htI htS hacc hit hsz hR
   have hin:i=items.size:=by omega
   subst hin
   refine codeAny_builtin PySem.F.entry_sum_loop ?_
   rw[Around.under_plainId PySem.F.plain_sum_loop _]
   show wpAny _ A.in1 (seqItems? (.ref S) >>= _) _ _ s
   refine wpAny_bind (wpAny_seqItems hS rfl ?_)
   show wpAny _ A.in1 (tryCatch (pyNext (.ref I)) _ >>= _) _ _ s
   refine wpAny_bind (wpAny_tryCatch (W.done s _ _ hst fun h' tk hk'=>?_))
   obtain⟨m,hm⟩:=hacc
   exact wpAny_pure (hR h' tk t (fun b o hbI _ e=>hk' b o (by simpa using hbI) e) ⟨m,hk' t _ (by simpa using htI) hm⟩ (fun _=>rfl) fun z=>absurd z (by omega))
 | succ k ih=>
   intro i s t c acc hk hi hst hS htI htS hacc hit hsz hR
   have hlt:i<items.size:=by omega
   refine codeAny_builtin PySem.F.entry_sum_loop ?_
   rw[Around.under_plainId PySem.F.plain_sum_loop _]
   show wpAny _ A.in1 (seqItems? (.ref S) >>= _) _ _ s
   refine wpAny_bind (wpAny_seqItems hS rfl ?_)
   show wpAny _ A.in1 (tryCatch (pyNext (.ref I)) _ >>= _) _ _ s
   refine wpAny_bind (wpAny_tryCatch (W.item i s _ _ hlt hst fun v h' tk hP hst' hk'=>?_))
   have hP:items[i]?=some v:=hP
   rw[hv i hlt] at hP
   cases hP
   have hk2:∀b o,b≠I→s.heap.get? b=some o→h'.get? b=some o:=fun b o hb e=>hk' b o (by simpa using hb) e
   have hS':=hk2 S _ hSI hS
   obtain⟨m,hm⟩:=hacc
   have hm':=hk2 t _ htI hm
   obtain⟨hbI,hbS,mb,hb⟩:=hit i (Nat.le_refl _) hlt
   have hb':=hk2 _ _ hbI hb
   have hz1:(acc++its i).size≤sizeLine:=Nat.le_trans (ZbG k (i+1) _) hsz
   show wpAny _ A.in1 ((holding [Value.ref (ad i)] (binaryOp .Add (.ref t) (.ref (ad i)))).attempt >>= _) _ _ _
   refine wpAny_bind (wpAny_attempt (wpAny_holding (PySem.P.add_list (s:={ s with heap:=h',toks:=tk }) hm' hb' ?_ (by rw[← Array.size_append];exact hz1))))
   show wpAny _ A.in1 (updateSeq S (fun _=>#[.ref h'.objs.size]) >>= _) _ _ _
   have hS2:(h'.push { cls:=.type "list",data:=.seq (acc++its i) }).get? S=some _:=Heap.get?_push_of_some _ hS'
   refine wpAny_bind ?_
   refine wpAny_updateSeq (s:={ s with heap:=h'.push { cls:=.type "list",data:=.seq (acc++its i) },toks:=tk }) hS2 rfl ?_
   have hS3:=Heap.get?_update_self (Obj.mapSeq fun _=>#[Value.ref h'.objs.size]) hS2 rfl
   refine wpAny_bind (wpAny_letGo ?_)
   refine wpAny_bind ?_
   have sb:∀b o,b≠I→b≠S→s.heap.get? b=some o→(((h'.push { cls:=.type "list",data:=.seq (acc++its i) }).update S (Obj.mapSeq fun _=>#[Value.ref h'.objs.size])).update S (Obj.mapSeq fun _=>#[Value.ref h'.objs.size])).get? b=some o:=fun b o hbI hbS e=>
    (Heap.get?_update_other _ _ (Ne.symm hbS)).trans ((Heap.get?_update_other _ _ (Ne.symm hbS)).trans (Heap.get?_push_of_some _ (hk2 b o hbI e)))
   have sb':∀b o,b≠S→h'.get? b=some o→(((h'.push { cls:=.type "list",data:=.seq (acc++its i) }).update S (Obj.mapSeq fun _=>#[Value.ref h'.objs.size])).update S (Obj.mapSeq fun _=>#[Value.ref h'.objs.size])).get? b=some o:=fun b o hbS e=>
    (Heap.get?_update_other _ _ (Ne.symm hbS)).trans ((Heap.get?_update_other _ _ (Ne.symm hbS)).trans (Heap.get?_push_of_some _ e))
   have ltS:S<h'.objs.size:=Heap.lt_size hS'
   have ltI:I<h'.objs.size:=by obtain⟨o,e,_⟩:=hst'.1;exact Heap.lt_size e
   have nt:(((h'.push { cls:=.type "list",data:=.seq (acc++its i) }).update S (Obj.mapSeq fun _=>#[Value.ref h'.objs.size])).update S (Obj.mapSeq fun _=>#[Value.ref h'.objs.size])).get? h'.objs.size=some { cls:=.type "list",data:=.seq (acc++its i) }:=
    (Heap.get?_update_other _ _ (Nat.ne_of_lt ltS)).trans ((Heap.get?_update_other _ _ (Nat.ne_of_lt ltS)).trans (Heap.get?_push_size _ rfl))
   refine wpAny_updateSeq hS3 rfl (wpAny_pure ⟨plainId_quiet PySem.F.plain_sum_loop _,ih (i+1) _ h'.objs.size _ (acc++its i) (by omega) hlt ⟨hst'.1.at fun o e=>sb' I o (Ne.symm hSI) e,hst'.2.at fun o e=>sb' ax o (Ne.symm hSa) e⟩ (Heap.get?_update_self _ hS3 rfl)
    (Nat.ne_of_gt ltI) (Nat.ne_of_gt ltS) ⟨_,nt⟩ (fun j hj hj2=>?_) hsz fun h'' tk'' t'' hk'' hc h0 hl=>?_⟩)
   · obtain⟨h1,h2,m2,h3⟩:=hit j (by omega) hj2
     exact⟨h1,h2,m2,sb _ _ h1 h2 h3⟩
   · refine hR h'' tk'' t'' (fun b o hbI hbS e=>hk'' b o hbI hbS (sb b o hbI hbS e)) hc (fun z=>absurd z (by omega)) fun _=>?_
     cases k with
     | zero=>rw[h0 rfl];exact ltS
     | succ k=>exact hl (by omega)
end
section
variable {prog:Program}{w:World}{A:Around}{E:Value→Shared→Prop}{s:Shared}
theorem ZgU {ax t:Addr}{items:Array Value}{acc:Array Value}{m:Nat}{Q:Value→Shared→Prop}(hh:A.in1.handled=none)(hl:s.heap.IsList ax items)(ht:PySem.IsL s.heap t acc m)(ad:Nat→Addr)(its:Nat→Array Value)
  (hv:∀i,i<items.size→items[i]?=some (.ref (ad i))) (hit:∀j,j<items.size→∃m,PySem.IsL s.heap (ad j) (its j) m) (h0:0<items.size) (hz:(catL its 0 items.size acc).size≤sizeLine)
  (hQ:∀h' tk t',(∀b o,s.heap.get? b=some o→h'.get? b=some o)→(∃m,PySem.IsL h' t' (catL its 0 items.size acc) m)→s.heap.objs.size≤t'→Q (.ref t') { s with heap:=h',toks:=tk }) :
  wpAny (model prog w) A (call (.builtin "sum") [.ref ax,.ref t]) Q E s:=by
 refine call_function_tree PySem.F.kind_sum PySem.F.plain_sum PySem.F.entry_sum (ZgN _ _) ?_
 unfold Builtin.«sum»
 simp only[List.length_cons,List.length_nil]
 rw[if_neg (by decide)]
 refine wpAny_bind (wpAny_of_eq (show Builtin.Builtins.bindParams "sum" ["start"] 0 ⟨[.ref t],[]⟩=pure [some (.ref t)] from rfl) ?_)
 have hlt:ax<s.heap.objs.size:=by obtain⟨_,e,_⟩:=hl;exact Heap.lt_size e
 refine wpAny_bind (wpAny_pyIter_list hl ?_)
 refine wpAny_bind (wpAny_pure ?_)
 have tyT:∀h:Heap,(∀b o,s.heap.get? b=some o→h.get? b=some o)→({ s with heap:=h }:Shared).TypeIs (.ref t) "list" :=fun h k=>⟨_,k _ _ ht,rfl⟩
 have tT:=tyT (s.heap.push { cls:=.type "list_iterator",data:=.fields #[.ref ax,.int 0 0] }) fun b o e=>Heap.get?_push_of_some _ e
 simp only[List.forIn_cons,List.forIn_nil]
 refine wpAny_bind (wpAny_bind (wpAny_bind (wpAny_isInstance (T:= "list") (b:=false) tT ZeT ?_)))
 simp only[Bool.false_eq_true,if_false]
 refine wpAny_pure (wpAny_bind (wpAny_bind (wpAny_isInstance (T:= "list") (b:=false) tT Zct ?_)))
 simp only[Bool.false_eq_true,if_false]
 refine wpAny_pure (wpAny_bind (wpAny_bind (wpAny_isInstance (T:= "list") (b:=false) tT QH ?_)))
 simp only[Bool.false_eq_true,if_false]
 refine wpAny_pure (wpAny_pure ?_)
 refine wpAny_bind (wpAny_newObj_type ?_)
 have sz1:(s.heap.push { cls:=.type "list_iterator",data:=.fields #[.ref ax,.int 0 0] }).objs.size=s.heap.objs.size+1:=Heap.size_push ..
 have ltT:t<s.heap.objs.size:=Heap.lt_size ht
 have nI:(s.heap.push { cls:=.type "list_iterator",data:=.fields #[.ref ax,.int 0 0] }).get? s.heap.objs.size=some _:=Heap.get?_push_size _ rfl
 have k2:∀b o,s.heap.get? b=some o→((s.heap.push { cls:=.type "list_iterator",data:=.fields #[.ref ax,.int 0 0] }).push { cls:=.type "list",data:=.seq #[.ref t] }).get? b=some o:=fun b o e=>Heap.get?_push_of_some _ (Heap.get?_push_of_some _ e)
 refine wpAny_pure ⟨plainId_quiet PySem.F.plain_sum_loop _,Zig (I:=s.heap.objs.size) (ax:=ax) (S:=(s.heap.push { cls:=.type "list_iterator",data:=.fields #[.ref ax,.int 0 0] }).objs.size) hh (Nat.ne_of_lt hlt) (by rw[sz1];exact Nat.succ_ne_self _) (by rw[sz1];exact Nat.ne_of_gt (Nat.lt_succ_of_lt hlt)) ad its hv items.size 0 _ t _ acc rfl (Nat.zero_le _)
  ⟨⟨_,Heap.get?_push_of_some _ nI,rfl,rfl⟩,hl.at fun o e=>k2 _ o e⟩ (Heap.get?_push_size _ rfl) (Nat.ne_of_lt ltT) (by rw[sz1];exact Nat.ne_of_lt (Nat.lt_succ_of_lt ltT)) ⟨m,k2 _ _ ht⟩ (fun j _ hj=>?_) hz fun h' tk t' hk hc _ hS=>?_⟩
 · obtain⟨mj,hm⟩:=hit j hj
   have lt:=Heap.lt_size hm
   exact⟨Nat.ne_of_lt lt,by rw[sz1];exact Nat.ne_of_lt (Nat.lt_succ_of_lt lt),mj,k2 _ _ hm⟩
 · have hS:=hS h0
   rw[sz1] at hS
   exact hQ h' tk t' (fun b o e=>hk b o (Nat.ne_of_lt (Heap.lt_size e)) (by rw[sz1];exact Nat.ne_of_lt (Nat.lt_succ_of_lt (Heap.lt_size e))) (k2 b o e)) hc (Nat.le_of_lt (Nat.lt_of_succ_lt hS))
end
section
variable {X:Cx}{cl:ClsT}{pins:List (Addr×Obj)}{σ:L2.St}{H:Hp}{S:Za}{P:Addr→Prop}{s:Shared}
theorem Zdp (I:Inv X pins σ H s):∀ {vs:List V} {ds:List D} {zs:List D},Zb X.K H S P vs ds→Zcy ds=some zs→∀ {us:List Value},Vals vs us→
  ∃(qs:List (Addr×List Value)) (ws:List V),us=qs.map (fun q=>Value.ref q.1)∧(∀(j:Nat)(q:Addr×List Value),qs[j]?=some q→∃m,PySem.IsL s.heap q.1 q.2.toArray m)∧Vals ws (qs.flatMap (·.2))∧Zb X.K H S P ws zs
 | _,[],_,.nil,h,_,.nil=>by
   cases h
   exact⟨[],[],rfl,fun j q e=>by simp at e,.nil,.nil⟩
 | _,d :: ds,zs,.cons r rr,h,_,.cons ru ruu=>by
   cases d with
   | lst es=>
     unfold Zcy at h
     obtain⟨z2,e2,e3⟩:=Option.map_eq_some_iff.mp h
     subst e3
     cases r with
     | @lst a xs _ ha _ _ q=>
       obtain⟨qs,ws,h1,h2,h3,h4⟩:=Zdp I rr e2 ruu
       obtain⟨hz,its,n,rv,e⟩:=(show ObjOk X.prog X.w H s.heap a (.lst xs) from I.hok a _ ha)
       cases ru
       refine⟨(a,its) :: qs,xs++ws,by rw[h1];rfl,fun j q hq=>?_,?_,Zb.app q h4⟩
       · cases j with
         | zero=>simp at hq;subst hq;exact⟨n,e⟩
         | succ j=>exact h2 j q (by simpa using hq)
       · rw[List.flatMap_cons]
         exact Vals.append rv h3
   | _=>cases h
theorem ZbF (qs:List (Addr×List Value)):∀(k i:Nat)(acc:Array Value),qs.length - i=k→i≤qs.length→(catL (fun j=>((qs[j]?).map (·.2.toArray)).getD #[]) i k acc).toList=acc.toList++(qs.drop i).flatMap (·.2)
 | 0,i,acc,h,hi=>by
   rw[catL,List.drop_eq_nil_of_le (by omega)];simp
 | k+1,i,acc,h,hi=>by
   have hl:i<qs.length:=by omega
   rw[catL,ZbF qs k (i+1) _ (by omega) (by omega),List.drop_eq_getElem_cons hl,List.getElem?_eq_getElem hl,List.flatMap_cons]
   simp
theorem ZkA (hca:X.calm=true):CallR X (.builtin "sum") (rBi X cl .suml):=by
 intro pins s σ H xs us Q I r ⟨S,P,ds,z,rs,rp,h,q⟩
 change Ul S ds=some z at h
 unfold Ul at h
 split at h <;> try cases h
 next d=>
 split at h <;> try cases h
 next x xs0 hp=>
 split at h <;> try cases h
 next zs hc=>
 split at h <;> try cases h
 next hz=>
 obtain⟨y,y',rfl,ry,ry'⟩:=rep2 rp
 obtain⟨a,vs,rfl,ha,qs0⟩:=ZM rs ry hp
 cases ry' with
 | @lst b xs2 _ hb _ _ q2=>
   cases q2
   obtain⟨_,its,n,rv,e⟩:=(show ObjOk X.prog X.w H s.heap a (.lst vs) from I.hok a _ ha)
   obtain⟨_,its2,n2,rv2,e2⟩:=(show ObjOk X.prog X.w H s.heap b (.lst []) from I.hok b _ hb)
   cases rv2
   obtain⟨qs,ws,h1,h2,h3,h4⟩:=Zdp I qs0 hc rv
   have hlen:qs.length=its.length:=by rw[h1,List.length_map]
   have hl1:its.length=vs.length:=rv.length.symm
   have hl2:vs.length=xs0.length+1:=by rw[qs0.length];rfl
   have hw:ws.length=zs.length:=h4.length
   have hw2:(qs.flatMap (·.2)).length=ws.length:=h3.length.symm
   have eu:us=[Value.ref a,Value.ref b]:=by
    cases r with
    | cons r1 t1=>cases t1 with
      | cons r2 t2=>cases t2;cases r1;cases r2;rfl
   rw[eu]
   have hcat:(catL (fun j=>((qs[j]?).map (·.2.toArray)).getD #[]) 0 its.toArray.size #[]).toList=qs.flatMap (·.2):=by
    rw[show its.toArray.size=qs.length by rw[List.size_toArray,hlen],ZbF qs qs.length 0 _ rfl (Nat.zero_le _)];simp
   refine ZgU (I.ok.hd hca) (PySem.IsL.isList e) e2 (fun j=>((qs[j]?).map (·.1)).getD 0) (fun j=>((qs[j]?).map (·.2.toArray)).getD #[]) (fun i hi=>?_) (fun j hj=>?_) (by rw[List.size_toArray];omega) ?_ fun h' tk t' hk hc2 ht=>?_
   · have hi':i<qs.length:=by rw[hlen];simpa using hi
     rw[List.getElem?_toArray,h1,List.getElem?_map,List.getElem?_eq_getElem hi'];rfl
   · have hj':j<qs.length:=by rw[hlen];simpa using hj
     have:=h2 j _ (List.getElem?_eq_getElem hj')
     rw[List.getElem?_eq_getElem hj']
     exact this
   · rw[← Array.length_toList,hcat,hw2,hw];exact hz
   · obtain⟨m,hm⟩:=hc2
     have em:catL (fun j=>((qs[j]?).map (·.2.toArray)).getD #[]) 0 its.toArray.size #[]=(qs.flatMap (·.2)).toArray:=by
      rw[← hcat,Array.toArray_toList]
     rw[em] at hm
     exact⟨.ref t',upd H t' (.lst ws),I.laid (t':=tk) hk ht (show ObjOk X.prog X.w _ _ _ (.lst ws) from⟨by rw[hw];exact hz,qs.flatMap (·.2),m,h3,hm⟩),rfl,q _ _ (YX rs (I.hok.fresh ht) h4)⟩
end
end Sw
namespace Sw
open PySem PySem.Spec PyProof.Rows L2
section
variable {P:Program}{w:World}{A:Around}{E:Value→Shared→Prop}{s:Shared}
theorem ZjU:∀ {vs:List Value},(∀v∈vs,RelV (kV (kOf v)) v)→PySem.W.EachIs (fun v k=>RelV (kV k) v) vs (vs.map kOf)
 | [],_=>.nil
 | v :: r,h=>.cons (h v (by simp)) (ZjU fun u hu=>h u (List.mem_cons_of_mem _ hu))
theorem ZpD {h:Heap}{k:Key}{v:Value}(r:RelV (kV k) v):∃as,Reads h v (kD k).toP as:=by
 cases k with
 | inl i=>obtain⟨t,rfl⟩:=(show ∃t,v=Value.int i t from r);exact⟨_,.int i t⟩
 | inr x=>obtain⟨t,rfl⟩:=(show ∃t,v=Value.str x t from r);exact⟨_,.str x t⟩
theorem Zc0 {h:Heap}:∀ {vs:List Value} {ks:List Key},PySem.W.EachIs (fun v k=>RelV (kV k) v) vs ks→PySem.W.EachIs (fun v k=>∃as,Reads h v (kD k).toP as) vs ks
 | _,_,.nil=>.nil
 | _,_,.cons a r=>.cons (ZpD a) (Zc0 r)
abbrev leK:Key→Key→Bool:=PySem.W.dataLe false fun k=>(kD k).toP
theorem ZlF {a:Addr}{ks:List Key}{Q:Value→Shared→Prop}(R:Yn P w s.heap a ks)(hh:A.handled=none)(al:PySem.W.AllAlike (ks.map fun k=>(kD k).toP))(so:PySem.W.Sortable (ks.map fun k=>(kD k).toP))(hu:A.units+60<cLine)
  (fin:∀s' p (out:List Value) (bs:List Key) (c:Nat),(∀b o,s.heap.get? b=some o→s'.heap.get? b=some o)→s'.gens=s.gens→s'.os=s.os→s.heap.objs.size≤p→s'.heap.get? p=some (seqObj "list" out.toArray c)→
   bs.Perm ks→out.length=bs.length→PySem.W.EachIs (fun v k=>RelV (kV k) v) out (bs.mergeSort leK)→Q (.ref p) s'):wpAny (model P w) A (call (.builtin "sorted") [.ref a]) Q E s:=by
 have few:=R.len
 obtain⟨o,es,ep,t,at0,ex,dt,ge,pm,nd,hb,ft,ri,led⟩:=R
 refine Calls.call_function_entry kind_sorted plain_sorted entry_sorted (args_sorted1 _) ?_
 unfold Builtin.«sorted»
 refine wpAny_bind (m:=checkCount "sorted" 1 1 _) (wpAny_pure (wpAny_bind (collect_set (A:=A.in1) hh ⟨o,at0,ex.1,dt⟩ ft hb ri led fun s1 vs k1 sz g1 o1 pv=>?_)))
 have all:∀v∈vs,RelV (kV (kOf v)) v:=fun v hv=>by
  obtain⟨e,he,rfl⟩:=List.mem_map.mp (pv.mem_iff.mp hv)
  exact(ge e he).1
 have bp:(vs.map kOf).Perm ks:=by
  have q:=pv.map kOf
  rw[List.map_map] at q
  exact q.trans pm
 have vl:vs.length≤sizeLine:=by
  have:=bp.length_eq
  rw[List.length_map] at this
  have h1:scanBound=4096:=rfl
  rw[sizeLine_eq]
  omega
 have e1:=ZjU all
 have memk:∀d,d∈(vs.map kOf).map (fun k=>(kD k).toP)→d∈ks.map fun k=>(kD k).toP:=fun d hd=>(bp.map _).mem_iff.mp hd
 have al1:PySem.W.AllAlike ((vs.map kOf).map fun k=>(kD k).toP):=fun d hd d' hd'=>al d (memk d hd) d' (memk d' hd')
 have so1:PySem.W.Sortable ((vs.map kOf).map fun k=>(kD k).toP):=so.imp (fun h d hd=>h d (memk d hd)) fun h d hd=>h d (memk d hd)
 refine wpAny_bind (wpAny_newList ?_ vl)
 have at1:(s1.heap.push (seqObj "list" vs.toArray 0)).get? s1.heap.objs.size=some (seqObj "list" vs.toArray 0):=Heap.get?_push_size _ rfl
 refine wpAny_bind (wpAny_holding (wpAny_call_entry_kw PyProof.Rows.slot_list_sort ⟨_,at1,rfl⟩ entry_list_sort ?_ (PyProof.Rows.args_list_sort _)))
 have er:=Zc0 (h:=PySem.W.sortingHeap (s1.heap.push (seqObj "list" vs.toArray 0)) s1.heap.objs.size vs) e1
 refine PySem.W.list_sort_vals (s:={ s1 with heap:=s1.heap.push (seqObj "list" vs.toArray 0) }) at1 (PySem.W.SortsAt.data (s:={ s1 with heap:=PySem.W.sortingHeap (s1.heap.push (seqObj "list" vs.toArray 0)) s1.heap.objs.size vs }) (PySem.W.each_map (R:=fun v d=>∃as,Reads (PySem.W.sortingHeap (s1.heap.push (seqObj "list" vs.toArray 0)) s1.heap.objs.size vs) v d as) (fun k=>(kD k).toP) er) al1 so1 ?_) vl ?_
 · intro d hd
   obtain⟨k,_,rfl⟩:=List.mem_map.mp hd
   have:(kD k).toP.depth=0:=by cases k <;> rfl
   rw[this]
   show A.in1.in1.units+_<cLine
   have h1:A.in1.in1.units≤A.units+2:=by first | exact Nat.le_refl _ | (simp[Around.in1];done)
   omega
 · have out:=PySem.W.sortVals_data false e1 er al1
   obtain⟨c,hc⟩:=PyProof.Rows.sortedHeap_at (vs:=vs) (out:=(PySem.W.sortVals (PySem.W.dataKind (PySem.W.sortingHeap (s1.heap.push (seqObj "list" vs.toArray 0)) s1.heap.objs.size vs) ((vs.map kOf).map fun k=>(kD k).toP)) false vs vs).toArray) at1
   refine⟨_,rfl,wpAny_pure ⟨_,rfl,fin _ s1.heap.objs.size _ (vs.map kOf) c (fun b u e=>?_) g1 o1 sz hc bp ?_ out⟩⟩
   · have q:=k1 b u e
     have lt:=Heap.lt_size q
     show(PyProof.Rows.sortedHeap (s1.heap.push (seqObj "list" vs.toArray 0)) s1.heap.objs.size vs _).get? b=some u
     rw[PyProof.Rows.sortedHeap_old (Nat.ne_of_lt lt) (by rw[PyProof.Rows.size_push'];exact Nat.lt_succ_of_lt lt)]
     exact Heap.get?_push_of_some _ q
   · rw[PySem.W.sortVals_length false rfl,List.length_map]
end
end Sw
namespace Sw
open PySem PySem.Spec PyProof.Rows L2
section
variable {X:Cx}
def ZnY (K:PySem.W.Frag)(ta:TE)(R:List Key→Hp→VK→Prop):TE:=fun σ H Q=>ta σ H fun x H1=>∃l ks,x=.ref l∧(SqL K H1 l (ks.map kV)∨SqT K H1 l (ks.map kV))∧ks.length+1<scanBound∧R ks H1 Q
theorem UO:∀ {ks:List Key} {its:List Value},Vals (ks.map kV) its→ZcL its.toArray ks
 | [],_,.nil=>⟨rfl,fun i v h=>by simp at h⟩
 | k :: ks,_,.cons r t=>by
   obtain⟨h1,h2⟩:=UO (ks:=ks) t
   refine⟨by simpa using h1,fun i v h=>?_⟩
   cases i with
   | zero=>exact⟨k,rfl,by simp at h;rw[← h];exact r⟩
   | succ i=>exact h2 i v (by simpa using h)
theorem Zb0 {a:Expr}{ta:TE}{g:Str}{id:String}{p p2 q pos:Pos}{R:List Key→Hp→VK→Prop}(hc:X.calm=true)(hg:Gl X g)(hm:X.mg g=none)(hb:bootBuiltins g=some (.builtin id))(hn:g≠("__name__" : Str)) (hd:(g == ("__debug__" : Str))=false) (hg2:Gl X "set") (hm2:X.mg "set" = none) (ha:PE X a ta)
  (na:starEach [a] X.env=(false,eval a X.env) :: starEach [] X.env)
  (run:∀(pins:List (Addr×Obj))(s:Shared)(σ:L2.St)(H:Hp)(Q:VK)(d:Addr)(ks:List Key),Inv X pins σ H s→Yn X.prog X.w s.heap d (Yp ks)→R ks H Q→wpAny (model X.prog X.w) X.A (call (.builtin id) [.ref d]) (EP X pins σ Q) X.xe s) :
  PE X (.Call (.Name g p) [.Call (.Name "set" p2) [a] [] q] [] pos) (ZnY X.K ta R):=by
 refine⟨fun pins s σ H Q I h=>?_⟩
 refine Call_ (ld_blt I hg hm hb ?_ hn hd)
 refine PyProof.Rows.callWith_builtin1 (PyProof.Rows.args_cons ?_ rfl) rfl rfl
 refine Call_ (ld_blt I hg2 hm2 boot_set ?_)
 refine PyProof.Rows.callWith_type1 (PyProof.Rows.args_cons (thn (ha.run pins s σ H _ I h) fun v s1 ⟨x,H1,I1,r1,q1⟩=>PyProof.Rows.args_nil ?_) na) na rfl
 obtain⟨l,ks,rfl,hq,few,q1⟩:=q1
 cases r1
 have fin:ZfH X.prog X.w s1 ks fun v s2=>wpAny (model X.prog X.w) X.A (spliced (backTo pos (starEach [] X.env))) (fun vs s₂=>wpAny (model X.prog X.w) X.A (call (.builtin id) (v :: vs)) (EP X pins σ Q) X.xe s₂) X.xe s2:=fun h' tk hS hk=>by
  refine PyProof.Rows.args_nil ?_
  exact run pins _ σ H1 Q _ ks (I1.kept hk) hS q1
 rcases hq with hq | hq
 · obtain⟨its,r,pl,hz⟩:=I1.list hq
   exact Zgt (I1.ok.hd hc) pl.isList (UO r) few fin
 · obtain⟨its,r,pl,hz⟩:=I1.tuple hq
   exact ZeK (I1.ok.hd hc) pl (UO r) few fin
theorem Zjx {pins:List (Addr×Obj)}{s:Shared}{σ:L2.St}{H:Hp}{Q:VK}{d:Addr}{ks:List Key}(I:Inv X pins σ H s)(S:Yn X.prog X.w s.heap d (Yp ks))(q:Q (.int (Yp ks).length) H):wpAny (model X.prog X.w) X.A (call (.builtin "len") [.ref d]) (EP X pins σ Q) X.xe s:=by
 have few:=S.len
 obtain⟨o,es,ep,t,at0,ex,dt,ge,pm,nd,hb,ft,_⟩:=S
 have e:(Yp ks).length=es.size:=by
  have:=pm.length_eq
  unfold V4 at this
  rw[List.length_map,Array.length_toList] at this
  exact this.symm
 rw[e] at q
 have h1:scanBound=4096:=rfl
 exact call_len_set at0 ex dt ft (by omega) ⟨.int es.size,H,I.tok _,⟨_,rfl⟩,q⟩
theorem Zjy {pins:List (Addr×Obj)}{s:Shared}{σ:L2.St}{H:Hp}{Q:VK}{d:Addr}{ks:List Key}(hc:X.calm=true)(hu:X.A.units+100<cLine)(I:Inv X pins σ H s)(S:Yn X.prog X.w s.heap d (Yp ks))
  (al:PySem.W.AllAlike ((Yp ks).map fun k=>(kD k).toP)) (so:PySem.W.Sortable ((Yp ks).map fun k=>(kD k).toP)) (q:∀p (bs:List Key),H p=none→bs.Perm (Yp ks)→Q (.ref p) (upd H p (.lst ((bs.mergeSort leK).map kV)))) :
  wpAny (model X.prog X.w) X.A (call (.builtin "sorted") [.ref d]) (EP X pins σ Q) X.xe s:=by
 have few:=S.len
 refine ZlF S (I.ok.hd hc) al so (by omega) fun s' p out bs c k g o hp hg pm ol ho=>?_
 have hv:∀ {us:List Value} {ks:List Key},PySem.W.EachIs (fun v k=>RelV (kV k) v) us ks→Vals (ks.map kV) us:=by
  intro us ks h
  induction h with
  | nil=>exact .nil
  | cons a _ ih=>exact .cons a ih
 have hl:((bs.mergeSort leK).map kV).length≤sizeLine:=by
  have h1:scanBound=4096:=rfl
  have h2:=pm.length_eq
  rw[List.length_map,List.length_mergeSort,sizeLine_eq]
  omega
 have hn:H p=none:=I.hok.fresh hp
 have J:Inv X pins σ (upd H p (.lst ((bs.mergeSort leK).map kV))) { s with heap:=s'.heap,gens:=s'.gens,drawn:=s'.drawn,toks:=s'.toks }:=
  I.call (ch:=[]) (Un.laid k hp hn) (I.hok.laid k hp ⟨hl,out,c,hv ho,hg⟩) (by rw[g];exact I.bare) (fun _ z=>nomatch z)
 have e:s'={ s with heap:=s'.heap,gens:=s'.gens,drawn:=s'.drawn,toks:=s'.toks }:=by
  cases s';cases s;cases o;rfl
 rw[e]
 exact⟨.ref p,_,J,rfl,q p bs hn pm⟩
end
theorem UP:∀ {xs:List D} {ks:List Key},ZaL xs=some ks→xs=ks.map kD
 | [],_,h=>by cases h;rfl
 | d :: r,ks,h=>by
   unfold ZaL at h
   split at h
   · next k t e1 e2=>
     cases h
     rw[List.map_cons,UP e2]
     congr 1
     cases d <;> cases e1 <;> rfl
   · cases h
section
variable {K:PySem.W.Frag}{H:Hp}{S:Za}{P:Addr→Prop}
theorem ZnP {v:V}{k:Key}(r:Rep K H S P v (kD k)):v=kV k:=by
 cases k <;> cases r <;> rfl
theorem Zni (k:Key):Rep K H S P (kV k) (kD k):=by
 cases k
 · exact .int _
 · exact .str _
theorem Zbs:∀ {ks:List Key} {vs:List V},Zb K H S P vs (ks.map kD)→vs=ks.map kV
 | [],_,.nil=>rfl
 | k :: r,_,.cons a t=>by rw[List.map_cons,ZnP a,Zbs t]
theorem Zfd:∀ks:List Key,Zb K H S P (ks.map kV) (ks.map kD)
 | []=>.nil
 | k :: r=>.cons (Zni k) (Zfd r)
end
theorem Zff {i j:Int}:leK (.inl i) (.inl j)=decide (i≤j):=congrFun (congrFun (PySem.W.dataLe_int (fun b:Int=>b)) i) j
theorem Zfg {x y:Str}:leK (.inr x) (.inr y)=decide (x.cps.toList≤y.cps.toList):=congrFun (congrFun (PySem.W.dataLe_str (fun b:Str=>b)) x) y
theorem ZgA {x y:Str}(h:x.cps.toList=y.cps.toList):x=y:=by
 cases x;cases y;congr 1;exact Array.toList_inj.mp h
def ZcG (ks:List Key):Prop:=(∀k∈ks,∃i,k=.inl i)∨∀k∈ks,∃x,k=.inr x
theorem Zhr:PySem.W.TotalLe leK:=by
 unfold leK PySem.W.dataLe
 exact PySem.W.sortLe_total _ _ _
theorem Zh8 {ks js:List Key}(h:ZcG ks)(pm:js.Perm ks):js.mergeSort leK=ks.mergeSort leK:=by
 have anti:∀a∈ks,∀b∈ks,leK a b=true→leK b a=true→a=b:=by
  rcases h with h | h
  · intro a ha b hb
    obtain⟨i,rfl⟩:=h a ha;obtain⟨j,rfl⟩:=h b hb
    rw[Zff,Zff];simp only[decide_eq_true_eq];intro h1 h2;congr 1;omega
  · intro a ha b hb
    obtain⟨i,rfl⟩:=h a ha;obtain⟨j,rfl⟩:=h b hb
    rw[Zfg,Zfg];simp only[decide_eq_true_eq];intro h1 h2;congr 1;exact ZgA (List.le_antisymm h1 h2)
 have t:=Zhr
 have up:∀ls:List Key,(ls.mergeSort leK).Pairwise fun a b=>leK a b=true:=fun ls=>List.pairwise_mergeSort t.trans (fun a b=>by simpa using t.total a b) ls
 refine List.Perm.eq_of_pairwise (le:=fun a b=>leK a b=true) (fun a b ha hb=>anti a (pm.mem_iff.mp (List.mem_mergeSort.mp ha)) b (List.mem_mergeSort.mp hb)) (up js) (up ks) ?_
 exact((List.mergeSort_perm js leK).trans pm).trans (List.mergeSort_perm ks leK).symm
theorem ZjC (ks:List Key):Xf (ks.map kD)=(ks.mergeSort leK).map kD:=by
 unfold Xf
 exact(List.map_mergeSort (f:=kD) (r:=leK) (s:=PySem.W.dataLe false D.toP) fun a _ b _=>rfl).symm
theorem ZdQ {ks:List Key}(h:Wg (ks.map kD)=true):ZcG ks:=by
 unfold Wg at h
 simp only[Bool.and_eq_true,List.all_eq_true] at h
 have al:=h.1.1.2
 cases ks with
 | nil=>exact .inl fun k hk=>by cases hk
 | cons k r=>
   have each:∀j∈k :: r,PySem.W.alike (kD k).toP (kD j).toP=true:=fun j hj=>al _ (List.mem_map.mpr ⟨k,by simp,rfl⟩) _ (List.mem_map.mpr ⟨j,hj,rfl⟩)
   cases k with
   | inl i=>
     refine .inl fun j hj=>?_
     have:=each j hj
     cases j with
     | inl n=>exact⟨n,rfl⟩
     | inr x=>simp[kD,D.toP,PySem.W.alike] at this
   | inr x=>
     refine .inr fun j hj=>?_
     have:=each j hj
     cases j with
     | inl n=>simp[kD,D.toP,PySem.W.alike] at this
     | inr x=>exact⟨x,rfl⟩
theorem ZiD {ks:List Key}(h:ZcG ks):PySem.W.AllAlike (ks.map fun k=>(kD k).toP):=by
 intro d hd d' hd'
 obtain⟨k,hk,rfl⟩:=List.mem_map.mp hd
 obtain⟨k',hk',rfl⟩:=List.mem_map.mp hd'
 rcases h with h | h
 · obtain⟨i,rfl⟩:=h k hk;obtain⟨j,rfl⟩:=h k' hk';simp[kD,D.toP,PySem.W.alike]
 · obtain⟨i,rfl⟩:=h k hk;obtain⟨j,rfl⟩:=h k' hk';simp[kD,D.toP,PySem.W.alike]
theorem ZeM (ks:List Key):PySem.W.Sortable (ks.map fun k=>(kD k).toP):=by
 refine .inr fun d hd=>?_
 obtain⟨k,hk,rfl⟩:=List.mem_map.mp hd
 cases k <;> simp[kD,D.toP]
end Sw
namespace Sw
open PySem PySem.Spec PyProof.Rows L2
structure YV (P:Program)(w:World)(K:PySem.W.Frag)(mg:Str→Option Value)(base:Heap)(k:Nat)(f:Addr)(fd:FuncData)(ps:List Str)(sp:Sp):Prop where
 len:∀vs H Q E,sp vs H Q E→vs.length=ps.length
 run:∀(A:Around)(outer:List Env)(s:Shared)(H:Hp)(args:Args)(us:List Value)(vs:List V)(Q:VK)(E:XK),Room k A→A.guards=some []→Env0 P w K mg base A outer s H→BindsTo s fd args (ps.zip us)→Vals vs us→sp vs H Q E→
  codeAny (model P w) A (.call (.ref f) args) (CR CX0 outer P w H s Q E) s
section
variable {X:Cx}{k:Nat}{f:Addr}{fd:FuncData}{ps:List Str}{sp:Sp}{x:Str}{p pos:Pos}{e:Expr}{es:List Expr}{t:TA}
theorem Qy {pins:List (Addr×Obj)}{σ:L2.St}{H:Hp}{s:Shared}{Q:VK}{us:List Value}{vs:List V}(F:YV X.prog X.w X.K X.mg X.base k f fd ps sp)(hr:Room k X.A)(hgd:X.A.guards=some [])(hb:Binds X.K fd ps [])
  (I:Inv X pins σ H s) (r:Vals vs us) (h:sp vs H Q E0):wpAny (model X.prog X.w) X.A (call (.ref f) us) (EP X pins σ Q) X.xe s:=by
 have hl:us.length=ps.length:=by rw[← r.length];exact F.len _ _ _ _ h
 have hb':=hb s us I.kIn (by rw[List.append_nil];exact hl)
 rw[List.append_nil] at hb'
 refine wpAny_call (codeAny_mono (F.run X.A X.stack s H ⟨us,[]⟩ us vs Q E0 hr hgd I.env0 hb' r h) fun r s' hq=>?_)
 cases r with
 | error e=>exact False.elim hq
 | ok fl=>
   cases fl with
   | ret u=>exact I.after hq
   | next=>exact False.elim hq
   | brk=>exact False.elim hq
   | cont=>exact False.elim hq
theorem pe_callG (F:YV X.prog X.w X.K X.mg X.base k f fd ps sp)(hr:Room k X.A)(hgd:X.A.guards=some [])(hg:Gl X x)(hm:X.mg x=some (.ref f))(hk:PySem.W.keepIn X.K (.ref f)=true)(hb:Binds X.K fd ps [])
  (ha:PA X (e :: es) t) (hdb:(x == ("__debug__" : Str))=false) (he:starEach (e :: es) X.env=(false,eval e X.env) :: starEach es X.env) (hpl:(backTo pos (starEach es X.env)).any (·.1)=false) :
  PE X (.Call (.Name x p) (e :: es) [] pos) (tCall sp [] E0 t):=by
 refine⟨fun pins s σ H Q I h=>?_⟩
 refine wpAny_Call_Name_kw (ld_glob I hg hm ?_ hdb)
 refine PySem.W.callWith_K (h₀:=X.base) I.ok.mod.kin hk (thn (ha.run pos pins s σ H _ I h) fun us s1 ⟨vs,H1,I1,r,q⟩=>⟨I1.kIn,?_⟩) he hpl
 replace q:sp (vs++[]) H1 Q E0:=q
 rw[List.append_nil] at q
 exact Qy F hr hgd hb I1 r q
theorem ZhP (F:YV X.prog X.w X.K X.mg X.base k f fd ps sp)(hr:Room k X.A)(hgd:X.A.guards=some [])(hg:Gl X x)(hm:X.mg x=some (.ref f))(hk:PySem.W.keepIn X.K (.ref f)=true)(hb:Binds X.K fd ps [])
  (hdb:(x == ("__debug__" : Str))=false):PE X (.Call (.Name x p) [] [] pos) (tCall sp [] E0 tNil):=by
 refine⟨fun pins s σ H Q I h=>?_⟩
 refine wpAny_Call_Name_kw (ld_glob I hg hm ?_ hdb)
 exact PySem.W.callWith_K0 I.kIn hk (Qy (us:=[]) F hr hgd hb I .nil h)
end
theorem ZmR {P:Program}{w:World}{K:PySem.W.Frag}{mg:Str→Option Value}{base:Heap}{k:Nat}{f:Addr}{name qual:Str}{params:Arguments}{body:List Stmt}{scope:Scope}{dV kV doc pm cdv ct oc:Value}{an od:Option Addr}
  {osl:Array (Option Value)} {N ps:List Str} {sp:Sp} (lk:K.lookup f=some ⟨oc,od,.func (PySem.W.fnOf name qual params body scope dV kV doc pm an cdv ct),osl⟩) (hcd:PySem.W.codeIn K cdv qual=true) (S:FnScope N ps scope)
  (len:∀vs H Q E,sp vs H Q E→vs.length=ps.length)
  (hbody:∀(A:Around)(outer:List Env)(s:Shared)(H:Hp)(vs:List V)(Q:VK)(E:XK),Room k (A.deeper (envOfC qual scope s.heap.objs.size f cdv))→(A.deeper (envOfC qual scope s.heap.objs.size f cdv)).guards=some []→sp vs H Q E→
   ∃t,PSs (cxOf CX0 P w K mg base N qual scope f cdv A outer s H E) body t∧t { nx:=fun _ H'=>Q .non H',rt:=Q } (start N vs) H) :
  YV P w K mg base (k+1) f (PySem.W.fnOf name qual params body scope dV kV doc pm an cdv ct) ps sp:=by
 refine⟨len,fun A outer s H args us vs Q E hr hgd e0 hb r hsp=>?_⟩
 have hl:=len _ _ _ _ hsp
 have KX:K.In s.heap:=e0.mod.kin.keeps fun b o e=>(e0.bs b o e).1
 have lim:s.heap.NoLimit:=e0.mod.nolimit.keeps fun b o e=>(e0.bs b o e).1
 have hkind:∀y∈ps.zip us,scope.names.lookup y.1=some .local∨(scope.names.lookup y.1=some .cell∧((cellsFrom (s.heap.objs.size+1) scope.names []).lookup y.1).isSome=true):=fun⟨n,v⟩ hy=>by
  rcases S.par n (List.of_mem_zip hy).1 with q | q
  · exact .inl q
  · exact .inr ⟨q,PySem.W.cellsFrom_some _ _ _ (.inl q)⟩
 refine codeAny_call_function hr.depth (KX _ _ lk) rfl S.co S.gen rfl (PySem.W.codeRec_of KX hcd) (hb _ _ _ _ ?_)
 refine wpAny_newFunctionEnv_cells S.kind hkind fun env he s1 x=>?_
 subst he
 refine⟨lim.keeps x.toInCall.keep,codeAny_func ?_⟩
 obtain⟨t,ht,hq⟩:=hbody A outer s H vs Q E (hr.deeper _) hgd hsp
 have I:Inv (cxOf CX0 P w K mg base N qual scope f cdv A outer s H E) [] (start N vs) H s1:=inv_start S hr.hd e0 hl r x
 refine wpAny_mono (ht.run [] s1 (start N vs) H _ I hq) (fun fl s' hs=>?_) fun e s' hs=>hs
 have fin:∀ {σ':L2.St} {H':Hp} {v:V} {u:Value},Inv (cxOf CX0 P w K mg base N qual scope f cdv A outer s H E) [] σ' H' s'→RelV v u→Q v H'→CE outer P w H s Q u s':=
  fun {σ' H' v u} J rv q=>⟨v,H',J.os,J.bare,J.base,J.hok,rv,q⟩
 cases fl with
 | ret u=>
   obtain⟨v,σ',H',J,rv,q⟩:=hs
   exact fin J rv q
 | next=>
   obtain⟨σ',H',J,q⟩:=hs
   exact fin (v:=V.non) (u:=Value.none) J rfl q
 | brk=>
   obtain⟨_,_,_,q⟩:=hs
   exact False.elim q
 | cont=>
   obtain⟨_,_,_,q⟩:=hs
   exact False.elim q
def cE (X:Cx)(e:Expr):TE:=fun σ H Q=>∀pins s,Inv X pins σ H s→wpAny (model X.prog X.w) X.A (eval e X.env) (EP X pins σ Q) X.xe s
def cT (X:Cx)(e:Expr):TT:=fun σ H Q=>∀pins s,Inv X pins σ H s→wpAny (model X.prog X.w) X.A (isTrue e X.env (eval e X.env)) (TP X pins σ Q) X.xe s
def cW (X:Cx)(e:Expr):TT:=fun σ H Q=>∀whole pins s,Inv X pins σ H s→wpAny (model X.prog X.w) X.A (isTrue e X.env whole) (TP X pins σ Q) X.xe s
def cA (X:Cx)(es:List Expr):TA:=fun σ H Q=>∀pos pins s,Inv X pins σ H s→wpAny (model X.prog X.w) X.A (spliced (backTo pos (starEach es X.env))) (AP X pins σ Q) X.xe s
def cS (X:Cx)(st:Stmt):TS:=fun D σ H=>∀pins s,Inv X pins σ H s→wpAny (model X.prog X.w) X.A (exec st X.env) (SP X pins D) X.xe s
def cSs (X:Cx)(st:List Stmt):TS:=fun D σ H=>∀pins s,Inv X pins σ H s→wpAny (model X.prog X.w) X.A (execs st X.env) (SP X pins D) X.xe s
section
variable {X:Cx}{e:Expr}{es:List Expr}{st:Stmt}{sts:List Stmt}{σ:L2.St}{H:Hp}
theorem c_e:PE X e (cE X e):=⟨fun pins s σ H Q I h=>h pins s I⟩
theorem c_t:PT X e (cT X e):=⟨fun pins s σ H Q I h=>h pins s I⟩
theorem c_w:PW X e (cW X e):=⟨fun wh pins s σ H Q I h=>h wh pins s I⟩
theorem c_a:PA X es (cA X es):=⟨fun pos pins s σ H Q I h=>h pos pins s I⟩
theorem c_s:PS X st (cS X st):=⟨fun pins s σ H D I h=>h pins s I⟩
theorem c_ss:PSs X sts (cSs X sts):=⟨fun pins s σ H D I h=>h pins s I⟩
theorem Zu {t:TE}{Q:VK}(h:PE X e t)(q:t σ H Q):cE X e σ H Q:=fun pins s I=>h.run pins s σ H Q I q
theorem WM {t:TT}{Q:Bool→Hp→Prop}(h:PT X e t)(q:t σ H Q):cT X e σ H Q:=fun pins s I=>h.run pins s σ H Q I q
theorem Zcx {t:TT}{Q:Bool→Hp→Prop}(h:PW X e t)(q:t σ H Q):cW X e σ H Q:=fun wh pins s I=>h.run wh pins s σ H Q I q
theorem Zcw {t:TA}{Q:List V→Hp→Prop}(h:PA X es t)(q:t σ H Q):cA X es σ H Q:=fun pos pins s I=>h.run pos pins s σ H Q I q
theorem YH {t:TS}{D:Ends}(h:PS X st t)(q:t D σ H):cS X st D σ H:=fun pins s I=>h.run pins s σ H D I q
theorem ZgR {t:TS}{D:Ends}(h:PSs X sts t)(q:t D σ H):cSs X sts D σ H:=fun pins s I=>h.run pins s σ H D I q
theorem Ze {Q Q':VK}(h:cE X e σ H Q)(m:∀v H',Q v H'→Q' v H'):cE X e σ H Q':=fun pins s I=>thn (h pins s I) fun u s' ⟨v,H',I',r,q⟩=>⟨v,H',I',r,m v H' q⟩
theorem Y9 {Q Q':Bool→Hp→Prop}(h:cT X e σ H Q)(m:∀v H',Q v H'→Q' v H'):cT X e σ H Q':=fun pins s I=>thn (h pins s I) fun u s' ⟨H',I',q⟩=>⟨H',I',m u H' q⟩
theorem ZeZ {Q Q':Bool→Hp→Prop}(h:cW X e σ H Q)(m:∀v H',Q v H'→Q' v H'):cW X e σ H Q':=fun wh pins s I=>thn (h wh pins s I) fun u s' ⟨H',I',q⟩=>⟨H',I',m u H' q⟩
theorem Yc {Q Q':List V→Hp→Prop}(h:cA X es σ H Q)(m:∀v H',Q v H'→Q' v H'):cA X es σ H Q':=fun pos pins s I=>thn (h pos pins s I) fun u s' ⟨v,H',I',r,q⟩=>⟨v,H',I',r,m v H' q⟩
theorem Zfv {pins:List (Addr×Obj)}{D D':Ends}{f:Flow}{s':Shared}(h:SP X pins D f s')(h1:∀σ H,D.nx σ H→D'.nx σ H)(h2:∀v H,D.rt v H→D'.rt v H)(h3:∀σ H,D.bk σ H→D'.bk σ H)(h4:∀σ H,D.ct σ H→D'.ct σ H):SP X pins D' f s':=by
 cases f with
 | next=>obtain⟨σ',H',I,q⟩:=h;exact⟨σ',H',I,h1 _ _ q⟩
 | brk=>obtain⟨σ',H',I,q⟩:=h;exact⟨σ',H',I,h3 _ _ q⟩
 | cont=>obtain⟨σ',H',I,q⟩:=h;exact⟨σ',H',I,h4 _ _ q⟩
 | ret u=>obtain⟨v,σ',H',I,r,q⟩:=h;exact⟨v,σ',H',I,r,h2 _ _ q⟩
end
def YI (K:PySem.W.Frag)(cl:ClsT)(sp:ZA):Sp:=fun vs H Q _=>∃ds S P,RS K cl H S P∧Zb K H S P vs ds∧sp ds S fun d S'=>∀v H',Le H S P H' S'→RS K cl H' S' P→Rep K H' S' P v d→Q v H'
structure ZlZ (X:Cx)(cl:ClsT)(k:Nat)(x:Str)(sp:ZA):Prop where
 mono:∀ds S Q Q',(∀d S',Q d S'→Q' d S')→sp ds S Q→sp ds S Q'
 ex:∃(f:Addr) (fd:FuncData) (ps:List Str),X.mg x=some (.ref f)∧PySem.W.keepIn X.K (.ref f)=true∧Binds X.K fd ps []∧YV X.prog X.w X.K X.mg X.base k f fd ps (YI X.K cl sp)
def Vf:D→Option V
 | .non=>some .non
 | .bl b=>some (.bl b)
 | .int i=>some (.int i)
 | .str x=>some (.str x)
 | _=>none
theorem Zjz {K:PySem.W.Frag}{H:Hp}{S:Za}{P:Addr→Prop}{d:D}{v:V}(h:Vf d=some v):Rep K H S P v d:=by
 cases d <;> cases h
 · exact .non
 · exact .bl _
 · exact .int _
 · exact .str _
def Z6:List Str:=["len", "abs", "range", "isinstance", "tuple", "list", "min", "max", "int", "sum", "all", "any", "sorted", "repr", "str", "enumerate", "zip", "dict", "set", "bool"]
structure Zkk (X:Cx)(cl:ClsT)(k:Nat)(c m:Str)(sp:ZA):Prop where
 mono:∀ds S Q Q',(∀d S',Q d S'→Q' d S')→sp ds S Q→sp ds S Q'
 ex:∃(C f:Addr) (fd:FuncData) (ps:List Str),cl c=some C∧Cls X.K C∧Meth X.K C m f∧Binds X.K fd ps []∧YV X.prog X.w X.K X.mg X.base k f fd ps (YI X.K cl sp)
structure Zkj (X:Cx)(cl:ClsT)(k:Nat)(c:Str)(sp:ZA):Prop where
 mono:∀ds S Q Q',(∀d S',Q d S'→Q' d S')→sp ds S Q→sp ds S Q'
 ex:∃(C f:Addr) (fd:FuncData) (ps:List Str) (j:Nat),j+1≤k∧X.mg c=some (.ref C)∧cl c=some C∧Mk X.K C f∧Binds X.K fd ps []∧YV X.prog X.w X.K X.mg X.base j f fd ps (YI X.K cl sp)
structure XF (Γ:Gam)(cl:ClsT)(k:Nat)(X:Cx):Prop where
 calm:X.calm=true
 nd:X.N.Nodup
 xe:X.xe=fun _ _=>False
 room:Room k X.A
 gd:X.A.guards=some []
 fns:∀f sp,Γ.fn f sp→ZlZ X cl k f sp
 gls:∀x d,Γ.gl x d→∃v u,Vf d=some v∧X.mg x=some u∧RelV v u
 blt:∀x∈Z6,X.mg x=none
 flds:∀c f,Γ.fld c f→∃C,cl c=some C∧Cls X.K C∧NoAttr X.K C f
 mes:∀c m sp,Γ.me c m sp→Zkk X cl k c m sp
 inis:∀c sp,Γ.ini c sp→Zkj X cl k c sp
theorem XF.hu {Γ:Gam}{cl:ClsT}{k:Nat}{X:Cx}(F:XF Γ cl k X):X.A.units+100<cLine:=by have:=F.room.un;omega
structure Cd where
 N:List Str
 sc:Scope
 fnb:Str→Bool
structure XC (c:Cd)(X:Cx):Prop where
 n:X.N=c.N
 sc:X.env.scope=c.sc
 fn:∀x,c.fnb x=true→X.fn x=true
def visC (c:Cd)(x:Str):Bool:=match c.sc.names.lookup x with | some .local=>true | some .cell=>true | some .free=>true | _=>false
def gloC (c:Cd)(x:Str):Bool:=match c.sc.names.lookup x with | some .globalImplicit=>true | _=>false
def locC (c:Cd)(x:Str):Bool:=match c.sc.names.lookup x with | some .local=>true | some .cell=>c.fnb x | _=>false
def Zi:Expr→Bool
 | .Starred ..=>false
 | .Slice ..=>false
 | .Set ..=>false
 | _=>true
def Xj:Expr→Bool
 | .UnaryOp .Not _ _=>false
 | .BoolOp ..=>false
 | .IfExp ..=>false
 | .Compare ..=>false
 | _=>true
def X7:Bi→Str
 | .len=> "len" | .abs=> "abs" | .tuple=> "tuple" | .list=> "list" | .min2=> "min" | .max2=> "max" | .int=> "int" | .sum=> "sum" | .suml=> "sum" | .all=> "all" | .any=> "any" | .sorted=> "sorted" | .repr=> "repr" | .str=> "str" | .lrange1=> "list" | .lrange2=> "list" | .dict=> "dict" | .min1=> "min" | .max1=> "max"
def ZcW:D→Const→Bool
 | .non,.none=>true
 | .bl b,.bool b'=>b == b'
 | .int i,.int j=>decide (i=j)
 | .str x,.str y=>decide (x=y)
 | _,_=>false
def Vs:M→Bool
 | .lst _=>true
 | .dct _ _=>true
 | .bin _ _ _=>true
 | .sl _ _ _ _=>true
 | .bi _ _=>true
 | .comp _ _ _ _ _ _=>true
 | .meth _ _ _=>true
 | .rev _=>true
 | .sset _=>true
 | _=>false
def Zdt:Me→Str
 | .join=> "join" | .sindex=> "index" | .split=> "split" | .partition=> "partition"
def Yo:Expr→Bool
 | .Name _ _=>true
 | .Subscript ..=>true
 | .Constant ..=>true
 | .Attribute ..=>true
 | .Call (.Name id _) [] [] _=>!(id == ("super" : Str))
 | .Call _ (_ :: _) _ _=>true
 | .Call (.Attribute ..) [] _ _=>true
 | _=>false
def ZaP:Ml→Str
 | .get1=> "get" | .get2=> "get" | .lindex=> "index" | .tindex=> "index" | .lcount=> "count"
def Vx:Mu→Str
 | .append=> "append" | .extend=> "extend" | .reverse=> "reverse" | .clear=> "clear" | .pop=> "pop" | .popAt=> "pop"
def strC:Option Expr→Str→Bool
 | some (.Constant (.str x) _ _),k=>decide (k=x)
 | _,_=>false
def Wc:List Str→List (Option Expr)→Bool
 | [],[]=>true
 | k :: ks,e :: es=>strC e k && Wc ks es
 | _,_=>false
mutual
def chkT (c:Cd):Tg→Expr→Bool
 | .nm i,e=>match e with | .Name x _=>decide (c.N[i]?=some x) && locC c x | _=>false
 | .tp a r,e=>match e with | .Tuple (e1 :: es) _ _=>chkT c a e1 && XT c r es | _=>false
 | .nil,e=>false
def XT (c:Cd):Tg→List Expr→Bool
 | .tp a r,es=>match es with | e1 :: es=>chkT c a e1 && XT c r es | _=>false
 | .nil,es=>match es with | []=>true | _=>false
 | .nm _,_=>false
end
def Y5:Tg→List Nat
 | .nm i=>[i]
 | .tp a r=>Y5 a++Y5 r
 | .nil=>[]
def ownC (N:List Str)(own:List Nat):List (Str×Nat):=own.map fun i=>(N.getD i Str.empty,i)
def tysC (c:Cd):List Ty→List Expr→Bool
 | [],es=>match es with | []=>true | _=>false
 | t :: ts,es=>match es with | .Name n _ :: es=>decide (n=Str.ofString t.nm) && gloC c n && tysC c ts es | _=>false
mutual
def chk (c:Cd):M→Expr→Bool
 | .v i,e=>match e with | .Name x _=>decide (c.N[i]?=some x) && visC c x && !(x == ("__debug__" : Str)) && !(x == ("__classdict__" : Str)) | _=>false
 | .k d,e=>match e with | .Constant k _ _=>ZcW d k | _=>false
 | .g x,e=>match e with | .Name y _=>decide (x=y) && gloC c x && !(x == ("__debug__" : Str)) | _=>false
 | .bin o a b,e=>match e with | .BinOp l o' r _=>decide (o=o') && chk c a l && chk c b r | _=>false
 | .neg a,e=>match e with | .UnaryOp .USub x _=>chk c a x | _=>false
 | .cmp o a b,e=>match e with | .Compare l [o'] [r] _=>decide (o=o') && chk c a l && chk c b r && Zi r | _=>false
 | .chain o o' a b d,e=>match e with | .Compare l [p,p'] [r,r'] _=>decide (o=p) && decide (o'=p') && chk c a l && chk c b r && chk c d r' && Zi r && Zi r' | _=>false
 | .isn no a,e=>match e with | .Compare l [p] [.Constant .none _ _] _=>decide (p=if no=true then .IsNot else .Is) && chk c a l | _=>false
 | .isb no b a,e=>match e with | .Compare l [p] [.Constant (.bool b') _ _] _=>decide (p=if no=true then .IsNot else .Is) && (b == b') && chk c a l | _=>false
 | .and a b,e=>match e with
   | .BoolOp .And [l,r] _=>chk c a l && chk c b r
   | .BoolOp .And (l :: r :: r2 :: es) p=>chk c a l && chk c b (.BoolOp .And (r :: r2 :: es) p)
   | _=>false
 | .or a b,e=>match e with
   | .BoolOp .Or [l,r] _=>chk c a l && chk c b r
   | .BoolOp .Or (l :: r :: r2 :: es) p=>chk c a l && chk c b (.BoolOp .Or (r :: r2 :: es) p)
   | _=>false
 | .not a,e=>match e with | .UnaryOp .Not x _=>chk c a x | _=>false
 | .ite d a b,e=>match e with | .IfExp t x y _=>chk c d t && chk c a x && chk c b y | _=>false
 | .tup as,e=>match e with | .Tuple es _ _=>chks c as es | _=>false
 | .lst as,e=>match e with | .List es _=>chks c as es | _=>false
 | .dct ks as,e=>match e with | .Dict keys es _=>Wc ks keys && chks c as es && decide (ks.length=es.length) && decide (ks.map (Sum.inr:Str→Key)).Nodup && decide (ks.length≤15) | _=>false
 | .isa t a,e=>match e with | .Call (.Name f _) [x,.Name n _] [] _=>decide (f = "isinstance") && gloC c f && decide (n=Str.ofString t.nm) && gloC c n && Zi x && chk c a x | _=>false
 | .bi f as,e=>match f with
   | .lrange1=>match e with | .Call (.Name g _) [.Call (.Name h _) [x] [] _] [] _=>(match as with | .cons a .nil=>decide (g = "list") && gloC c g && decide (h = "range") && gloC c h && Zi x && chk c a x | _=>false) | _=>false
   | .lrange2=>match e with | .Call (.Name g _) [.Call (.Name h _) [x,y] [] _] [] _=>(match as with | .cons a (.cons b .nil)=>decide (g = "list") && gloC c g && decide (h = "range") && gloC c h && Zi x && Zi y && chk c a x && chk c b y | _=>false) | _=>false
   | f=>match e with | .Call (.Name g _) (x :: es) [] _=>decide (g=X7 f) && gloC c g && chks c as (x :: es) | _=>false
 | .ix a i,e=>match e with | .Subscript x y _=>chk c a x && chk c i y && Zi y | _=>false
 | .sl lo hi a as,e=>match e with
   | .Subscript x (.Slice l u none _) _=>chk c a x && (match lo,hi,l,u with
     | false,false,none,none=>chks c as []
     | true,false,some y,none=>chks c as [y]
     | false,true,none,some z=>chks c as [z]
     | true,true,some y,some z=>chks c as [y,z]
     | _,_,_,_=>false)
   | _=>false
 | .call f as,e=>match e with | .Call (.Name x _) es [] _=>decide (f=x) && gloC c x && !(x == ("__debug__" : Str)) && chks c as es | _=>false
 | .comp s as own tg cs el,e=>match e with
   | .ListComp elt [⟨t,iter,ifs,0⟩] scope _=>decide (ifs.length≤1) && Zi iter && (match s with
      | .it=>(match as with | .cons a .nil=>chk c a iter | _=>false)
      | .keys=>(match as with | .cons a .nil=>chk c a iter | _=>false)
      | .rng1=>(match iter with | .Call (.Name h _) [x] [] _=>decide (h = "range") && gloC c h && chks c as [x] | _=>false)
      | .rng2=>(match iter with | .Call (.Name h _) [x,y] [] _=>decide (h = "range") && gloC c h && chks c as [x,y] | _=>false)
      | .enum=>(match t,iter with | .Tuple ..,.Call (.Name h _) [x] [] _=>decide (h = "enumerate") && gloC c h && chks c as [x] | _,_=>false)
      | .zip=>(match t,iter with | .Tuple ..,.Call (.Name h _) [x,y] [] _=>decide (h = "zip") && gloC c h && chks c as [x,y] | _,_=>false))
     && blkC c.N c.sc scope (ownC c.N own) && ((Y5 tg).all fun i=>decide (i∈own))
     && chkT ⟨c.N,relS scope c.sc,fun x=>scope.names.lookup x == some .cell⟩ tg t
     && chks ⟨c.N,relS scope c.sc,fun x=>scope.names.lookup x == some .cell⟩ cs ifs && chk ⟨c.N,relS scope c.sc,fun x=>scope.names.lookup x == some .cell⟩ el elt
   | _=>false
 | .meth m o as,e=>match e with | .Call (.Attribute eo nm ap) (x :: es) [] cp=>decide (nm=Zdt m) && Yo eo && (ap.endLine == cp.line) && decide (es.length≤20) && chk c o eo && chks c as (x :: es) | _=>false
 | .own a,e=>Vs a && Xj e && chk c a e
 | .frz a,e=>Xj e && chk c a e
 | .rev a,e=>match e with | .Subscript x (.Slice none none (some (.UnaryOp .USub (.Constant (.int i) _ _) _)) _) _=>decide (i=1) && chk c a x | _=>false
 | .isat ts a,e=>match e with | .Call (.Name f _) [x,.Tuple ns _ _] [] _=>decide (f = "isinstance") && gloC c f && (decide (ts.length≤20) && tysC c ts ns) && Zi x && chk c a x | _=>false
 | .lset a,e=>match e with | .Call (.Name g _) [.Call (.Name h _) [x] [] _] [] _=>decide (g = "len") && gloC c g && decide (h = "set") && gloC c h && Zi x && chk c a x | _=>false
 | .sset a,e=>match e with | .Call (.Name g _) [.Call (.Name h _) [x] [] _] [] _=>decide (g = "sorted") && gloC c g && decide (h = "set") && gloC c h && Zi x && chk c a x | _=>false
 | .at a f,e=>match e with | .Attribute x n _=>decide (n=f) && Yo x && chk c a x | _=>false
 | .tel m o as,e=>match e with | .Call (.Attribute eo nm ap) (x :: es) [] cp=>decide (nm=ZaP m) && Yo eo && (ap.endLine == cp.line) && decide (es.length≤20) && chk c o eo && chks c as (x :: es) && (match m with | .get1=>es.isEmpty | .get2=>es.length == 1 | _=>true) | _=>false
 | .mutv m o as,e=>match e with | .Call (.Attribute eo nm ap) es [] cp=>(match m with | .pop=>true | .popAt=>true | _=>false) && decide (nm=Vx m) && Yo eo && (ap.endLine == cp.line) && decide (es.length≤20) && chk c o eo && chks c as es | _=>false
 | .mcall o m as,e=>match e with | .Call (.Attribute eo nm ap) es [] cp=>decide (nm=m) && Yo eo && (ap.endLine == cp.line) && decide (es.length≤20) && chk c o eo && chks c as es | _=>false
 | .mk n as,e=>match e with | .Call (.Name x _) es [] _=>decide (n=x) && gloC c x && !(x == ("__debug__" : Str)) && chks c as es | _=>false
 | .unr,e=>Xj e
 | .lk i a,e=>Xj e && chk c a e
def chks (c:Cd):Ms→List Expr→Bool
 | .nil,es=>match es with | []=>true | _=>false
 | .cons a r,es=>match es with | e :: es=>Zi e && chk c a e && chks c r es | _=>false
end
end Sw
namespace Sw
open PySem PySem.Spec PyProof.Rows L2
section
variable {prog:Program}{w:World}{A:Around}{E:Value→Shared→Prop}{s:Shared}
theorem ZhA {v:Value}{o:Obj}{C:Heap→Prop}(B:Begins v o C) :
  Meets (Builtin.«enumerate.__new__» ⟨[.type "enumerate",v],[]⟩) (fun _ R s=>C s.heap∧
   R (.ok (.ret (.ref (s.heap.push o).objs.size))) { s with heap:=(s.heap.push o).push { cls:=.type "enumerate",data:=.fields #[.none,.bool false,.ref s.heap.objs.size,rawInt 0,.none,.none] } }):=by
 refine .of_wp fun prog w A R s h=>?_
 obtain⟨hp,g,d,tk,os⟩:=s
 obtain⟨h1,h⟩:=h
 have hsub:=sub_enumerate
 have begun:∀ {A':Around} {E:Value→Shared→Prop} {Q:Value→Shared→Prop},Q (.ref hp.objs.size) ⟨hp.push o,g,d,tk,os⟩→wpAny (model prog w) A' (pyIter v) Q E ⟨hp,g,d,tk,os⟩:=
  fun q=>B.iter prog w _ _ ⟨hp,g,d,tk,os⟩ _ h1 q
 wp_walk using begun
 refine wpAny_stack_any fun st=>wpAny_pure ?_
 split
 · next c _ _ _ _ _=>
   cases (c == Value.type "enumerate") <;> (wp_walk using begun;exact⟨_,rfl,h⟩)
 · wp_walk using begun
   exact⟨_,rfl,h⟩
theorem ZiJ {v:Value}{o:Obj}{C:Heap→Prop}{Q:Value→Shared→Prop}(B:Begins v o C)(hC:C s.heap)
  (h:∀h',IsEnum h' (s.heap.objs.size+1) s.heap.objs.size 0 .none→h'.get? s.heap.objs.size=some o→(∀b o,s.heap.get? b=some o→h'.get? b=some o)→Q (.ref (s.heap.objs.size+1)) { s with heap:=h' }) :
  wpAny (model prog w) A (call (.type "enumerate") [v]) Q E s:=by
 refine callType_new F.called_enumerate (by decide) (F.typeCall_enumerate_1 _) (F.newCall_enumerate_1 _) (fun obj=>F.args_object_init_2 obj _) F.entry_enumerate_new (ZhA B) ⟨hC,?_⟩
 generalize hob:({ cls:=.type "enumerate",data:=.fields #[.none,.bool false,.ref s.heap.objs.size,rawInt 0,.none,.none] }:Obj)=ob
 have hsz:(s.heap.push o).objs.size=s.heap.objs.size+1:=Heap.size_push ..
 have free:ob.isFreed=false:=by subst hob;rfl
 have at2:((s.heap.push o).push ob).get? (s.heap.objs.size+1)=some ob:=by rw[← hsz];exact Heap.get?_push_size _ free
 show _∧_
 rw[hsz]
 have he:IsEnum ((s.heap.push o).push ob) (s.heap.objs.size+1) s.heap.objs.size 0 .none:=by rw[← hob] at at2 ⊢;exact at2
 refine⟨⟨_,he,rfl⟩,h _ he (Heap.get?_push_of_some _ (Heap.get?_push_size _ B.free)) fun b o x=>Heap.get?_push_of_some _ (Heap.get?_push_of_some _ x)⟩
end
end Sw
namespace Sw
open PySem PySem.Spec PyProof.Rows L2
def SqX (K:PySem.W.Frag):Bool→Hp→Addr→List V→Prop
 | true=>fun H a xs=>SqT K H a xs
 | false=>fun H a xs=>SqL K H a xs
def IsX:Bool→Heap→Addr→Array Value→Prop
 | true=>fun h a its=>h.IsTuple a its
 | false=>fun h a its=>h.IsList a its
def ItrX:Bool→Heap→Addr→Addr→Nat→Prop
 | true=>fun h it a i=>h.IsTupleIter it a i
 | false=>fun h it a i=>h.IsListIter it a i
def objX:Bool→Addr→Obj
 | true=>fun a=>{ cls:=.type "tuple_iterator",data:=.fields #[.ref a,.int 0 0] }
 | false=>fun a=>{ cls:=.type "list_iterator",data:=.fields #[.ref a,.int 0 0] }
theorem Zbd (t:Bool)(a:Addr)(its:Array Value):Begins (.ref a) (objX t a) fun h=>IsX t h a its:=by
 cases t
 · exact begins_list a its
 · exact begins_tuple a its
theorem Zaa {t:Bool}{h:Heap}{it a:Addr}(e:h.get? it=some (objX t a)):ItrX t h it a 0:=by
 cases t <;> exact⟨_,e,rfl,rfl⟩
theorem Wn {t:Bool}{h h':Heap}{it a:Addr}{i:Nat}(x:ItrX t h it a i)(k:∀o,h.get? it=some o→h'.get? it=some o):ItrX t h' it a i:=by
 cases t
 · exact Heap.IsListIter.at x k
 · exact Heap.IsTupleIter.at x k
theorem Zm4 {t:Bool}{h h':Heap}{a:Addr}{its:Array Value}(x:IsX t h a its)(k:∀o,h.get? a=some o→h'.get? a=some o):IsX t h' a its:=by
 cases t
 · exact Heap.IsList.at x k
 · exact Heap.IsTuple.at x k
theorem XV {t:Bool}{h:Heap}{it a:Addr}{i:Nat}(x:ItrX t h it a i):∃o,h.get? it=some o∧∀v,o.data≠.cell v:=by
 cases t <;> (obtain⟨o,ho,_,hd⟩:=x;exact⟨o,ho,fun v q=>by rw[hd] at q;cases q⟩)
theorem Zdi {t:Bool}{h:Heap}{a:Addr}{its:Array Value}(x:IsX t h a its):a<h.objs.size:=by
 cases t <;> (obtain⟨o,ho,_⟩:=x;exact Heap.lt_size ho)
theorem invX {X:Cx}{t:Bool}{pins:List (Addr×Obj)}{σ:L2.St}{H:Hp}{s:Shared}{a:Addr}{xs:List V}(I:Inv X pins σ H s)(h:SqX X.K t H a xs):∃its,Vals xs its∧IsX t s.heap a its.toArray:=by
 cases t
 · obtain⟨its,rv,p,_⟩:=I.list h
   exact⟨its,rv,p.isList⟩
 · obtain⟨its,rv,p,_⟩:=I.tuple h
   exact⟨its,rv,p⟩
theorem injX {X:Cx}{t:Bool}{pins:List (Addr×Obj)}{σ:L2.St}{H:Hp}{s:Shared}{a:Addr}{xs ys:List V}(I:Inv X pins σ H s)(h1:SqX X.K t H a xs)(h2:SqX X.K t H a ys):xs=ys:=by
 cases t
 · exact I.list_inj h1 h2
 · exact I.tuple_inj h1 h2
theorem drX {prog:Program}{w:World}{A:Around}(hh:A.handled=none)(t:Bool)(it a:Addr)(hne:a≠it)(its:Array Value)(i:Nat)(h:Heap)(h1:ItrX t h it a i)(h2:IsX t h a its) :
  ∃(n:Nat) (Pv:Nat→Value→Prop) (St:Nat→Heap→Prop),Draws prog w A it [it,a] n Pv St∧St i h∧i≤n∧(its.size≤i→i=n)∧(i<its.size→i<n)∧(∀v,Pv i v→its[i]?=some v)∧∀j h,St j h→ItrX t h it a j:=by
 by_cases c:i<its.size
 · cases t
   · exact⟨_,_,_,Draws.list hh it a hne its,⟨h1,h2⟩,by omega,by omega,fun h=>h,fun v e=>e,fun j h st=>st.1⟩
   · exact⟨_,_,_,Draws.tuple hh it a hne its,⟨h1,h2⟩,by omega,by omega,fun h=>h,fun v e=>e,fun j h st=>st.1⟩
 · have hx:its[i]?=none:=by simp;omega
   refine⟨i,fun _ _=>False,fun j h=>j=i∧ItrX t h it a i∧IsX t h a its,?_,⟨rfl,h1,h2⟩,Nat.le_refl _,fun _=>rfl,fun h=>absurd h c,fun _ h=>h.elim,fun j h st=>st.1▸st.2.1⟩
   refine { live:=fun _ _ st=>let ⟨o,ho,_⟩:=XV st.2.1;⟨o,ho⟩
            frame:=fun _ _ _ st hk=>⟨st.1,Wn st.2.1 fun o q=>hk it (by simp) o q,Zm4 st.2.2 fun o q=>hk a (by simp) o q⟩
            item:=fun j _ _ _ hj st _=>absurd st.1 (Nat.ne_of_lt hj)
            done:=fun s Q E st hE=>?_ }
   cases t
   · exact wpAny_nextOf_list_end hh st.2.1 st.2.2 hx hE
   · exact wpAny_nextOf_tuple_end hh st.2.1 st.2.2 hx hE
def ItzX (K:PySem.W.Frag)(t u:Bool)(a b:Addr):It:=
 ⟨fun i H=>∃(x y:V) (xs ys:List V),SqX K t H a xs∧SqX K u H b ys∧xs[i]?=some x∧ys[i]?=some y,
  fun i H v H'=>∃p x y,∃o:Obj,v=.ref p∧H p=none∧o.dict=none∧H'=upd H p (.frz o (.tup [x,y]))∧(∀xs,SqX K t H a xs→xs[i]?=some x)∧∀ys,SqX K u H b ys→ys[i]?=some y,
  fun i H=>∃xs ys:List V,SqX K t H a xs∧SqX K u H b ys∧(xs.length≤i∨ys.length≤i)⟩
theorem sepX {z TI TO i1 i2 a b:Addr}(D:ZipApart z TI TO i1 i2 a b):ZipSep2 z TI TO i1 i2 [i1,a] [i2,b]:=by
 obtain⟨d1,d2,d3,d4,d5,d6,d7,d8,d9,d10,d11,d12,d13,d14,d15,d16,d17,d18⟩:=D
 constructor <;> simp <;> first | assumption | (constructor <;> first | assumption | (intro e;simp_all)) | (intro e;simp_all)
def zfp (z TI TO i1 i2:Addr):List Addr:=[z,TI,TO,i1,i2]
theorem Z0 {z TI TO i1 i2 c:Addr}:c∈zfp z TI TO i1 i2↔c=z∨c=TI∨c=TO∨c=i1∨c=i2:=by simp[zfp]
theorem ZlL {P:Program}{w:World}{K:PySem.W.Frag}{es:List Expr}{kk:Nat}{tp:Pos}{a b z TI TO i1 i2:Addr}(t u:Bool)(D:ZipApart z TI TO i1 i2 a b) :
  Turn P w K (.Tuple es kk tp) (ItzX K t u a b) (zfp z TI TO i1 i2) z (fun i h=>IsZip h z TI TO .none∧IsTupOf2 h TI (.ref i1) (.ref i2)∧(∃x y,IsTupOf2 h TO x y)∧ItrX t h i1 a i∧ItrX u h i2 b i) where
 mem:=Z0.mpr (.inl rfl)
 obj:=by
  intro i h st c hc
  obtain⟨hz,hTI,⟨x,y,hTO⟩,h1,h2⟩:=st
  rcases Z0.mp hc with rfl | rfl | rfl | rfl | rfl
  · exact⟨_,hz,fun v q=>nomatch q⟩
  · exact⟨_,hTI,fun v q=>nomatch q⟩
  · exact⟨_,hTO,fun v q=>nomatch q⟩
  · exact XV h1
  · exact XV h2
 keep:=by
  intro i h h' st k
  obtain⟨hz,hTI,⟨x,y,hTO⟩,h1,h2⟩:=st
  exact⟨k z (Z0.mpr (by simp)) _ hz,k TI (Z0.mpr (by simp)) _ hTI,⟨x,y,k TO (Z0.mpr (by simp)) _ hTO⟩,Wn h1 fun o q=>k i1 (Z0.mpr (by simp)) o q,Wn h2 fun o q=>k i2 (Z0.mpr (by simp)) o q⟩
 item:=by
  intro X hP hw hK hc i pins s σ H E I hf st hg
  subst hP hw hK
  obtain⟨hz,hTI,⟨x0,y0,hTO⟩,h1,h2⟩:=st
  obtain⟨x,y,xs,ys,hqx,hqy,hx,hy⟩:=hg
  obtain⟨its,rv,p⟩:=invX I hqx
  obtain⟨its2,rv2,p2⟩:=invX I hqy
  obtain⟨c,hcx,rc⟩:=rv.get hx
  obtain⟨d,hdy,rd⟩:=rv2.get hy
  have hh:X.A.in1.handled=none:=I.ok.hd hc
  have l1:i<its.toArray.size:=by simpa using (List.getElem?_eq_some_iff.mp hcx).1
  have l2:i<its2.toArray.size:=by simpa using (List.getElem?_eq_some_iff.mp hdy).1
  obtain⟨n1,P1,St1,D1,s1,_,_,lt1,e1,f1⟩:=drX (prog:=X.prog) (w:=X.w) hh t i1 a D.l1i1 its.toArray i s.heap h1 p
  obtain⟨n2,P2,St2,D2,s2,_,_,lt2,e2,f2⟩:=drX (prog:=X.prog) (w:=X.w) hh u i2 b D.l2i2 its2.toArray i s.heap h2 p2
  have hzl:=Heap.lt_size hz
  refine wpAny_pyNext_zipD2_item (sepX D) D1 D2 hz hTI hTO s1 s2 (lt1 l1) (lt2 l2) fun c' d' h' tk hPc hPd z' TO' st1' st2' hT hsz hk=>?_
  have ec:c'=c:=by
   have q:=e1 _ hPc
   rw[List.getElem?_toArray,hcx] at q
   exact(Option.some.inj q).symm
  have ed:d'=d:=by
   have q:=e2 _ hPd
   rw[List.getElem?_toArray,hdy] at q
   exact(Option.some.inj q).symm
  subst ec ed
  refine⟨_,rfl,wpAny_letOwnedTupleGo_zip (s:={ s with heap:=h',toks:=tk }) z' fun h'' z'' sb=>?_⟩
  have hT2:h''.get? s.heap.objs.size=some { cls:=.type "tuple",data:=.seq #[c',d'] }:=(sb.2 _ (Nat.ne_of_gt hzl)).trans hT
  have made:ObjOk X.prog X.w (upd H s.heap.objs.size (.frz (tupO [c',d']) (.tup [x,y]))) h'' s.heap.objs.size (.frz (tupO [c',d']) (.tup [x,y])):=
   ⟨hT2,show 2≤sizeLine by decide,[c',d'],.cons rc (.cons rd .nil),⟨_,hT2,rfl,_,rfl⟩⟩
  have J:Inv X pins σ (upd H s.heap.objs.size (.frz (tupO [c',d']) (.tup [x,y]))) { s with heap:=h'',toks:=tk }:=by
   refine I.turnedNew (ch:=zfp z TI TO i1 i2) (fun q o hb e=>?_) hf (Nat.le_refl _) made
   have nq:∀v,v∈zfp z TI TO i1 i2→q≠v:=fun v hv z=>hb (z▸hv)
   exact(sb.2 q (nq _ (Z0.mpr (by simp)))).trans (hk q o (nq _ (Z0.mpr (by simp))) (nq _ (Z0.mpr (by simp))) (nq _ (Z0.mpr (by simp))) (nq _ (Z0.mpr (by simp))) e)
  refine⟨.ref s.heap.objs.size,_,J,rfl,⟨_,x,y,_,rfl,I.hok.fresh (Nat.le_refl _),rfl,rfl,fun l hl=>?_,fun l hl=>?_⟩,⟨z'',?_,⟨c',d',?_⟩,?_,?_⟩,fun q hq=>?_⟩
  · rw[injX I hl hqx];exact hx
  · rw[injX I hl hqy];exact hy
  · exact(sb.2 _ D.TIz).trans (hk _ _ D.TIz D.TITO D.TIi1 D.TIi2 hTI)
  · exact(sb.2 _ D.TOz).trans TO'
  · exact Wn (f1 _ _ st1') fun o e=>(sb.2 _ D.i1z).trans e
  · exact Wn (f2 _ _ st2') fun o e=>(sb.2 _ D.i2z).trans e
  · have lt:q<s.heap.objs.size:=by
     rcases Z0.mp hq with rfl | rfl | rfl | rfl | rfl
     · exact hzl
     · exact Heap.lt_size hTI
     · exact Heap.lt_size hTO
     · obtain⟨o,e,_⟩:=XV h1;exact Heap.lt_size e
     · obtain⟨o,e,_⟩:=XV h2;exact Heap.lt_size e
    rw[upd_ne (Nat.ne_of_lt lt)]
    exact(hf q hq).1
 done:=by
  intro X hP hw hK hc i pins s σ H E I hf st hg
  subst hP hw hK
  obtain⟨hz,hTI,⟨x0,y0,hTO⟩,h1,h2⟩:=st
  obtain⟨xs,ys,hqx,hqy,hend⟩:=hg
  obtain⟨its,rv,p⟩:=invX I hqx
  obtain⟨its2,rv2,p2⟩:=invX I hqy
  have l1:=rv.length
  have l2:=rv2.length
  have hh:X.A.in1.handled=none:=I.ok.hd hc
  obtain⟨n1,P1,St1,D1,s1,le1,en1,_⟩:=drX (prog:=X.prog) (w:=X.w) hh t i1 a D.l1i1 its.toArray i s.heap h1 p
  obtain⟨n2,P2,St2,D2,s2,le2,en2,_⟩:=drX (prog:=X.prog) (w:=X.w) hh u i2 b D.l2i2 its2.toArray i s.heap h2 p2
  have he:i=n1∨i=n2:=hend.imp (fun q=>en1 (by simp;omega)) (fun q=>en2 (by simp;omega))
  refine wpAny_pyNext_zipD2_end (sepX D) D1 D2 hz hTI hTO s1 s2 le1 le2 he fun h' tk hk=>⟨rfl,I.turnedL (t':=tk) (ch:=zfp z TI TO i1 i2) (fun q o hb e=>?_) hf⟩
  have nq:∀v,v∈zfp z TI TO i1 i2→q≠v:=fun v hv z=>hb (z▸hv)
  exact hk q o (nq _ (Z0.mpr (by simp))) (nq _ (Z0.mpr (by simp))) (nq _ (Z0.mpr (by simp))) (nq _ (Z0.mpr (by simp))) e
 self:=fun A i s Q E st h=>wpAny_pyIter_zip st.1 h
def iZp (K:PySem.W.Frag)(ta:TA):TI:=fun σ H R=>ta σ H fun vs H1=>∃t u a b xs ys,vs=[.ref a,.ref b]∧SqX K t H1 a xs∧SqX K u H1 b ys∧R (ItzX K t u a b) H1
theorem Zge {X:Cx}{e e2:Expr}{ta:TA}{p pos tpos:Pos}{es:List Expr}{kk:Nat}(hg:Gl X "zip") (hm:X.mg "zip" = none) (ha:PA X [e,e2] ta)
  (hs:starEach [e,e2] X.env=(false,eval e X.env) :: starEach [e2] X.env:=by rfl) (hpl:(backTo pos (starEach [e2] X.env)).any (·.1)=false:=by rfl) :
  PI X (.Tuple es kk tpos) (.Call (.Name "zip" p) [e,e2] [] pos) (iZp X.K ta):=by
 constructor
 intro pins s σ H R I h
 refine Call_ (ld_blt I hg hm boot_zip (callWith_type1 (thn (ha.run pos pins s σ H _ I h) fun us s1 ⟨vs,H1,I1,r1,t,u,a,b,xs,ys,ex,hqx,hqy,q⟩=>?_) hs hpl))
 subst ex
 cases r1 with
 | cons r rr=>
 cases rr with
 | cons r' rr=>
 cases rr
 cases r
 cases r'
 have fps:∀c∈zfp (s1.heap.objs.size+4) (s1.heap.objs.size+2) (s1.heap.objs.size+3) s1.heap.objs.size (s1.heap.objs.size+1),FpOk X pins H1 c:=fun c hcm=>by
  have le:s1.heap.objs.size≤c:=by
   rcases Z0.mp hcm with z | z | z | z | z <;> rw[z] <;> first | exact Nat.le_refl _ | exact Nat.le_add_right _ _
  exact I1.fpOk le (I1.hok.fresh le)
 obtain⟨its,rv,p1⟩:=invX I1 hqx
 obtain⟨its2,rv2,p2⟩:=invX I1 hqy
 refine zip_begins2 (Zbd t a its.toArray) (Zbd u b its2.toArray) p1 p2 fun h' hz hTI hTO o1 o2 hsz hk=>wpAny_pyIter_zip hz ?_
 have I2:Inv X pins σ H1 { s1 with heap:=h' }:=I1.kept (t':=s1.toks) hk
 exact⟨_,_,_,_,H1,rfl,I2,ZlL t u (PySem.W.ktu_apart s1.heap.objs.size a b (Zdi p1) (Zdi p2)),⟨hz,hTI,⟨_,_,hTO⟩,Zaa o1,Zaa o2⟩,fps,q⟩
def ItnX (K:PySem.W.Frag)(t:Bool)(a:Addr):It:=
 ⟨fun i H=>∃(x:V) (xs:List V),SqX K t H a xs∧xs[i]?=some x,
  fun i H v H'=>∃p x,∃o:Obj,v=.ref p∧H p=none∧o.dict=none∧H'=upd H p (.frz o (.tup [.int (i:Nat),x]))∧∀ys,SqX K t H a ys→ys[i]?=some x,
  fun i H=>∃ys:List V,SqX K t H a ys∧ys.length≤i⟩
theorem ZjL {P:Program}{w:World}{K:PySem.W.Frag}{es:List Expr}{kk:Nat}{tp:Pos}(t:Bool)(a e it:Addr) :
  Turn P w K (.Tuple es kk tp) (ItnX K t a) [e,it] e (fun i h=>(∃old,IsEnum h e it ((i:Nat):Int) old)∧ItrX t h it a i∧e≠it∧a≠it∧e≠a) where
 mem:=List.mem_cons_self
 obj:=by
  intro i h st b hb
  obtain⟨⟨old,he⟩,hi,_⟩:=st
  rcases List.mem_cons.mp hb with rfl | hb
  · exact⟨_,he,fun v q=>nomatch q⟩
  · rw[List.mem_singleton.mp hb]
    exact XV hi
 keep:=by
  intro i h h' st k
  obtain⟨⟨old,he⟩,hi,r⟩:=st
  exact⟨⟨old,k e (by simp) _ he⟩,Wn hi fun o q=>k it (by simp) o q,r⟩
 item:=by
  intro X hP hw hK hc i pins s σ H E I hf st hg
  subst hP hw hK
  obtain⟨⟨old,he⟩,hi,hne,hai,hea⟩:=st
  obtain⟨x,xs,hq,hx⟩:=hg
  obtain⟨its,rv,p⟩:=invX I hq
  obtain⟨u,hu,ru⟩:=rv.get hx
  have hel:=Heap.lt_size he
  have hil:it<s.heap.objs.size:=by obtain⟨_,q,_⟩:=XV hi;exact Heap.lt_size q
  have l1:i<its.toArray.size:=by simpa using (List.getElem?_eq_some_iff.mp hu).1
  obtain⟨n,Pv,St,D,s1,_,_,lt,e1,f1⟩:=drX (prog:=X.prog) (w:=X.w) (A:=X.A.in1) (I.ok.hd hc) t it a hai its.toArray i s.heap hi p
  refine wpAny_pyNext_enum_itemD D he s1 (lt l1) hne (by simp[hne,hea]) fun y h' tk hPy ho st' hT hsz hk=>?_
  have ey:y=u:=by
   have h1:=e1 _ hPy
   rw[List.getElem?_toArray,hu] at h1
   exact(Option.some.inj h1).symm
  subst ey
  refine⟨_,rfl,wpAny_letOwnedTupleGo_enum (s:={ s with heap:=h',toks:=tk+1 }) ho fun h2 he2 sb=>?_⟩
  have hT2:h2.get? s.heap.objs.size=some (tupO [.int i tk,y]):=(sb.2 _ (Nat.ne_of_gt hel)).trans hT
  have made:ObjOk X.prog X.w (upd H s.heap.objs.size (.frz (tupO [.int i tk,y]) (.tup [.int (i:Nat),x]))) h2 s.heap.objs.size (.frz (tupO [.int i tk,y]) (.tup [.int (i:Nat),x])):=
   ⟨hT2,show 2≤sizeLine by decide,[.int i tk,y],.cons ⟨_,rfl⟩ (.cons ru .nil),⟨_,hT2,rfl,_,rfl⟩⟩
  have J:Inv X pins σ (upd H s.heap.objs.size (.frz (tupO [.int i tk,y]) (.tup [.int (i:Nat),x]))) { s with heap:=h2,toks:=tk+1 }:=by
   refine I.turnedNew (ch:=[e,it]) (fun b ob hb q=>?_) hf (Nat.le_refl _) made
   have n1:b≠e:=fun z=>hb (by rw[z];exact List.mem_cons_self)
   have n2:b≠it:=fun z=>hb (by rw[z];simp)
   exact(sb.2 b n1).trans (hk b ob n1 n2 q)
  refine⟨.ref s.heap.objs.size,_,J,rfl,⟨_,x,_,rfl,I.hok.fresh (Nat.le_refl _),rfl,rfl,fun ys hy=>?_⟩,⟨⟨y,?_⟩,Wn (f1 _ _ st') fun o q=>(sb.2 it (Ne.symm hne)).trans q,hne,hai,hea⟩,fun b hb=>?_⟩
  · rw[injX I hy hq];exact hx
  · rw[Int.natCast_succ];exact he2
  · have lt:b<s.heap.objs.size:=by
     rcases List.mem_cons.mp hb with rfl | hb
     · exact hel
     · rw[List.mem_singleton.mp hb];exact hil
    rw[upd_ne (Nat.ne_of_lt lt)]
    exact(hf b hb).1
 done:=by
  intro X hP hw hK hc i pins s σ H E I hf st hg
  subst hP hw hK
  obtain⟨⟨old,he⟩,hi,hne,hai,hea⟩:=st
  obtain⟨xs,hq,hx⟩:=hg
  obtain⟨its,rv,p⟩:=invX I hq
  have hl:=rv.length
  obtain⟨n,Pv,St,D,s1,_,en,_⟩:=drX (prog:=X.prog) (w:=X.w) (A:=X.A.in1) (I.ok.hd hc) t it a hai its.toArray i s.heap hi p
  obtain rfl:=en (by simp;omega)
  refine wpAny_pyNext_enum_endD D he s1 fun h' eb=>⟨rfl,I.turnedL (t':=s.toks) (ch:=[e,it]) (fun b o hb q=>eb b o (fun z=>hb (by rw[z];simp)) q) hf⟩
 self:=fun A i s Q E st h=>by
  obtain⟨⟨_,he⟩,_⟩:=st
  exact wpAny_pyIter_enum he h
def iEn (K:PySem.W.Frag)(ta:TA):TI:=fun σ H R=>ta σ H fun vs H1=>∃t a xs,vs=[.ref a]∧SqX K t H1 a xs∧R (ItnX K t a) H1
theorem Zgb {X:Cx}{e:Expr}{ta:TA}{p pos tpos:Pos}{es:List Expr}{kk:Nat}(hg:Gl X "enumerate") (hm:X.mg "enumerate" = none) (ha:PA X [e] ta) (hs:starEach [e] X.env=[(false,eval e X.env)]:=by rfl) :
  PI X (.Tuple es kk tpos) (.Call (.Name "enumerate" p) [e] [] pos) (iEn X.K ta):=by
 constructor
 intro pins s σ H R I h
 refine Call_ (ld_blt I hg hm boot_enumerate (callWith_type1 (thn (ha.run pos pins s σ H _ I h) fun us s1 ⟨vs,H1,I1,r1,t,a,xs,ex,hq,q⟩=>?_) hs rfl))
 subst ex
 cases r1 with
 | cons r rr=>
 cases rr
 cases r
 have fps:∀b∈[s1.heap.objs.size+1,s1.heap.objs.size],FpOk X pins H1 b:=fun b hb=>by
  have le:s1.heap.objs.size≤b:=by
   rcases List.mem_cons.mp hb with rfl | hb
   · exact Nat.le_succ _
   · rw[List.mem_singleton.mp hb];exact Nat.le_refl _
  exact I1.fpOk le (I1.hok.fresh le)
 obtain⟨its,rv,p'⟩:=invX I1 hq
 have la:=Zdi p'
 refine ZiJ (Zbd t a its.toArray) p' fun h' he ho hk=>wpAny_pyIter_enum he ?_
 have I2:Inv X pins σ H1 { s1 with heap:=h' }:=I1.kept (t':=s1.toks) hk
 exact⟨_,_,_,_,H1,rfl,I2,ZjL t a (s1.heap.objs.size+1) s1.heap.objs.size,⟨⟨.none,he⟩,Zaa ho,Nat.succ_ne_self _,Nat.ne_of_lt la,Nat.ne_of_gt (Nat.lt_succ_of_lt la)⟩,fps,q⟩
end Sw
namespace Sw
open PySem PySem.Spec PyProof.Rows L2
structure Tr (K:PySem.W.Frag)(H:Hp)(S:Za)(P:Addr→Prop)(H':Hp)(S':Za)(P':Addr→Prop):Prop where
 tup:∀a xs,TupF K H a xs→TupF K H' a xs
 frz:∀a xs,SqS K H a xs→SqS K H' a xs
 mt:∀a o,H a=some o→S a=none→¬P a→H' a=some o∧S' a=none∧¬P' a
 lk:∀a o kvs,H a=some (.frz o (.dK kvs))→H' a=some (.frz o (.dK kvs))
theorem Tr.dk {K:PySem.W.Frag}{H H':Hp}{S S':Za}{P P':Addr→Prop}(t:Tr K H S P H' S' P'){a:Addr}{kvs:List (Key×V)}(h:DkR H S P a kvs):DkR H' S' P' a kvs:=by
 rcases h with ⟨h,s,q⟩ |⟨o,h⟩
 · exact .inl (t.mt _ _ h s q)
 · exact .inr ⟨o,t.lk _ _ _ h⟩
section
variable {K:PySem.W.Frag}{cl:ClsT}{H H':Hp}{S S':Za}{P P':Addr→Prop}
mutual
theorem Rep.tr (t:Tr K H S P H' S' P'):∀ {v:V} (d:D),Rep K H S P v d→Rep K H' S' P' v d
 | _,.non,.non=>.non
 | _,.bl _,.bl b=>.bl b
 | _,.int _,.int i=>.int i
 | _,.str _,.str x=>.str x
 | _,.tup ds,.tup h hs=>.tup (t.tup _ _ h) (Zb.tr t ds hs)
 | _,.lst ds,.lst h s q hs=>.lst (t.mt _ _ h s q).1 (t.mt _ _ h s q).2.1 (t.mt _ _ h s q).2.2 (Zb.tr t ds hs)
 | _,.dic ks ds,.dic h l hs=>.dic (t.dk h) l (Zb.tr t ds hs)
 | _,.scr ds,.scr h hs=>.scr (t.frz _ _ h) (Zb.tr t ds hs)
 | _,.obj _,.obj a=>.obj a
theorem Zb.tr (t:Tr K H S P H' S' P'):∀ {vs:List V} (ds:List D),Zb K H S P vs ds→Zb K H' S' P' vs ds
 | _,[],.nil=>.nil
 | _,d :: ds,.cons h hs=>.cons (Rep.tr t d h) (Zb.tr t ds hs)
end
theorem upd_self {p:Addr}{o:HO}(h:H p=some o):upd H p o=H:=by
 funext a;unfold upd;split
 · next e=>subst e;exact h.symm
 · rfl
theorem Zbx {p:Addr}{mo:MO}:Tr K H S (Zx P p) H (sput S p mo) P:=
 ⟨fun _ _ h=>h,fun _ _ h=>h,fun a o h s q=>⟨h,by rw[Zo (fun z=>q (.inr z))];exact s,fun z=>q (.inl z)⟩,fun _ _ _ h=>h⟩
theorem RS.take (r:RS K cl H S (Zx P p))(np:¬P p){mo:MO}(m:MOk K cl H S (Zx P p) p mo):RS K cl H (sput S p mo) P:=by
 have conv:∀ {a:Addr} {mo':MO},MOk K cl H S (Zx P p) a mo'→MOk K cl H (sput S p mo) P a mo':=fun {a mo'} k=>by
  cases mo' with
  | lst ds=>obtain⟨xs,e,q⟩:=k;exact⟨xs,e,Zb.tr Zbx _ q⟩
  | dic kvs=>obtain⟨vs,l,e,n,q⟩:=k;exact⟨vs,l,e,n,Zb.tr Zbx _ q⟩
  | ins c fs=>obtain⟨C,dx,vs,c,l,e,q⟩:=k;exact⟨C,dx,vs,c,l,e,Zb.tr Zbx _ q⟩
 refine⟨fun a u e=>?_,fun a z=>?_,r.sm⟩
 · by_cases h:a=p
   · subst h
     rw[Zq] at e
     cases e
     exact⟨np,conv m⟩
   · rw[Zo h] at e
     obtain⟨nq,k⟩:=r.own a u e
     exact⟨fun z=>nq (.inl z),conv k⟩
 · have ne:a≠p:=fun q=>np (by rw[← q];exact z)
   obtain⟨s,u,e,mu⟩:=r.hid a (.inl z)
   exact⟨by rw[Zo ne];exact s,u,e,mu⟩
theorem Le.sput_new {p:Addr}{mo:MO}(le:Le H S P H' S')(hp:H p=none)(np:¬P p):Le H S P H' (sput S' p mo):=
 ⟨fun a o e s q=>by obtain⟨h1,h2⟩:=le.1 a o e s q;exact⟨h1,by rw[Zo (ne_of_none e hp)];exact h2⟩,
  fun a z=>by obtain⟨h1,h2⟩:=le.2 a z;exact⟨h1,by rw[Zo (fun q=>np (by rw[← q];exact z))];exact h2⟩⟩
end
def Fz (H0 H:Hp):Prop:=∀a o u,H0 a=some (.frz o u)→H a=some (.frz o u)
theorem Le.fz {K:PySem.W.Frag}{cl:ClsT}{H H':Hp}{S S':Za}{P:Addr→Prop}(r:RS K cl H S P)(le:Le H S P H' S'):Fz H H':=fun a o u h=>Le.frzAt r le h
def ItOk (K:PySem.W.Frag)(cl:ClsT)(s:Src)(vs:List V)(ds:List D)(J:It)(H0:Hp):Prop:=∀H S P items,Fz H0 H→RS K cl H S P→Zb K H S P vs ds→srcD s S ds=some items→
 ∀i,(∀d,items[i]?=some d→J.go i H∧∀x H',J.yld i H x H'→Le H S P H' S∧RS K cl H' S P∧Rep K H' S P x d)∧(items[i]?=none→J.stop i H)
section
variable {X:Cx}{cl:ClsT}{pins:List (Addr×Obj)}{σ:L2.St}{H H0:Hp}{S:Za}{P:Addr→Prop}{s:Shared}{tg:Expr}{R:It→Hp→Prop}
theorem Ze9 {a:Addr}{xs:List V}(I1:Inv X pins σ H s)(hq:SqL X.K H a xs)(q:R (Itl X.K a) H):wpAny (model X.prog X.w) X.A (pyIter (.ref a)) (PIE X pins σ tg R) X.xe s:=by
 obtain⟨its,rv,p,hz⟩:=I1.list hq
 refine wpAny_pyIter_list p.isList ?_
 refine⟨s.heap.objs.size,[s.heap.objs.size],_,_,H,rfl,I1.kept (t':=s.toks) fun b o e=>Heap.get?_push_of_some _ e,turn_list a _,⟨_,Heap.get?_push_size _ rfl,rfl,rfl⟩,fun b hb=>?_,q⟩
 have e:b=s.heap.objs.size:=by simpa using hb
 subst e
 exact I1.fpOk (Nat.le_refl _) (I1.hok.fresh (Nat.le_refl _))
theorem Zm6 {a:Addr}{xs:List V}(I1:Inv X pins σ H s)(hq:SqT X.K H a xs)(q:R (Itt X.K a) H):wpAny (model X.prog X.w) X.A (pyIter (.ref a)) (PIE X pins σ tg R) X.xe s:=by
 obtain⟨its,rv,p,hz⟩:=I1.tuple hq
 refine wpAny_pyIter_tuple (show s.heap.IsTuple a its.toArray from p) ?_
 refine⟨s.heap.objs.size,[s.heap.objs.size],_,_,H,rfl,I1.kept (t':=s.toks) fun b o e=>Heap.get?_push_of_some _ e,turn_tuple a _,⟨_,Heap.get?_push_size _ rfl,rfl,rfl⟩,fun b hb=>?_,q⟩
 have e:b=s.heap.objs.size:=by simpa using hb
 subst e
 exact I1.fpOk (Nat.le_refl _) (I1.hok.fresh (Nat.le_refl _))
theorem Zm5 {x:Str}{t:Tok}(I1:Inv X pins σ H s)(q:R (Its x) H):wpAny (model X.prog X.w) X.A (pyIter (.str x t)) (PIE X pins σ tg R) X.xe s:=by
 cases ha:x.cps.all (· < 128)
 · exact wpAny_pyIter_wide ha (pi_one (tk:=s.toks) I1 _ (turn_str _ x t "str_iterator" (.inr rfl)) ⟨_,Heap.get?_push_size _ rfl,rfl,rfl⟩ q)
 · exact wpAny_pyIter_ascii ha (pi_one (tk:=s.toks) I1 _ (turn_str _ x t "str_ascii_iterator" (.inl rfl)) ⟨_,Heap.get?_push_size _ rfl,rfl,rfl⟩ q)
def iIt (X:Cx)(cl:ClsT)(te:TE):TI:=fun σ H R=>te σ H fun v H1=>∃S P d items,RS X.K cl H1 S P∧Rep X.K H1 S P v d∧srcD .it S [d]=some items∧∀J H2,Le H1 S P H2 S→RS X.K cl H2 S P→ItOk X.K cl .it [v] [d] J H2→R J H2
theorem Zi4 {K:PySem.W.Frag}{a:Addr}{ds:List D}:ItOk K cl .it [.ref a] [.tup ds] (Itt K a) H0:=by
 intro H S P items _ rs rp h i
 have h:some ds=some items:=h
 cases h
 cases rp with
 | cons r _=>
   cases r with
   | tup e q=>
     refine⟨fun d hd=>?_,fun hd=>⟨_,e.t,?_⟩⟩
     · obtain⟨v,hv,r⟩:=q.get hd
       refine⟨⟨_,v,e.t,hv⟩,fun x H' ⟨e1,e2⟩=>?_⟩
       subst e1
       have:=e2 _ e.t
       rw[hv] at this;cases this
       exact⟨Le.refl rs,rs,r⟩
     · have:=List.getElem?_eq_none_iff.mp hd
       rw[q.length];exact this
theorem ZbT {K:PySem.W.Frag}{a:Addr}{d:D}(hd:∀S,srcD .it S [d]=peel S d):ItOk K cl .it [.ref a] [d] (Itl K a) H0:=by
 intro H S P items _ rs rp h i
 rw[hd] at h
 cases rp with
 | cons r _=>
   obtain⟨a',xs,e,ha,q⟩:=ZM rs r h
   cases e
   refine⟨fun d hd=>?_,fun hd=>⟨_,SqL.of ha,?_⟩⟩
   · obtain⟨v,hv,r⟩:=q.get hd
     refine⟨⟨_,v,SqL.of ha,hv⟩,fun x H' ⟨e1,e2⟩=>?_⟩
     subst e1
     have:=e2 _ (SqL.of ha)
     rw[hv] at this;cases this
     exact⟨Le.refl rs,rs,r⟩
   · have:=List.getElem?_eq_none_iff.mp hd
     rw[q.length];exact this
theorem Zi3 {K:PySem.W.Frag}{x:Str}:ItOk K cl .it [.str x] [.str x] (Its x) H0:=by
 intro H S P items _ rs rp h i
 have h:some (x.cps.toList.map fun c=>D.str ⟨#[c]⟩)=some items:=h
 cases h
 refine⟨fun d hd=>?_,fun hd=>?_⟩
 · rw[List.getElem?_map] at hd
   cases e:x.cps.toList[i]? with
   | none=>rw[e] at hd;cases hd
   | some c=>
     rw[e] at hd
     cases hd
     have e':x.cps[i]?=some c:=by rw[← e,Array.getElem?_toList]
     refine⟨?_,fun y H' hy=>?_⟩
     · obtain⟨hl,_⟩:=Array.getElem?_eq_some_iff.mp e'
       exact hl
     · obtain⟨e1,c',e2,e3⟩:=hy
       subst e1
       rw[e'] at e2;cases e2
       subst e3
       exact⟨Le.refl rs,rs,.str _⟩
 · rw[List.getElem?_map] at hd
   have h2:x.cps.size≤i:=by simpa using hd
   exact h2
theorem Zdj {K:PySem.W.Frag}{a:Addr}{o:Obj}{ks:List Key}{xs:List V}{ds:List D}(hl:ks.length=xs.length)(hz:H0 a=some (.frz o (.dK (ks.zip xs)))):ItOk K cl .keys [.ref a] [.dic ks ds] (Itk a o (ks.zip xs)) H0:=by
 intro H S P items fz rs rp h i
 have h:some (ks.map kD)=some items:=h
 cases h
 refine⟨fun d hd=>?_,fun hd=>⟨fz _ _ _ hz,?_⟩⟩
 · rw[List.getElem?_map] at hd
   cases e:ks[i]? with
   | none=>rw[e] at hd;cases hd
   | some k=>
     rw[e] at hd
     cases hd
     have hi:i<ks.length:=(List.getElem?_eq_some_iff.mp e).1
     refine⟨⟨fz _ _ _ hz,by rw[List.length_zip];omega⟩,fun x H' ⟨e1,k',v',e2,e3⟩=>?_⟩
     subst e1 e3
     have:(ks.zip xs)[i]?=some (k,xs[i]'(by omega)):=by
      rw[List.getElem?_zip_eq_some];exact⟨e,List.getElem?_eq_getElem _⟩
     rw[this] at e2;cases e2
     refine⟨Le.refl rs,rs,?_⟩
     cases k with
     | inl j=>exact .int j
     | inr y=>exact .str y
 · have:=List.getElem?_eq_none_iff.mp hd
   rw[List.length_map] at this
   rw[List.length_zip];omega
theorem Le.lock (r:RS X.K cl H S P){a:Addr}{o:Obj}{kvs:List (Key×V)}(h:H a=some (.dK kvs))(hs:S a=none)(np:¬P a):Le H S P (upd H a (.frz o (.dK kvs))) S:=by
 refine⟨fun b u e s _=>⟨?_,s⟩,fun b q=>⟨?_,(r.hid b q).1⟩⟩
 · by_cases hb:b=a
   · subst hb
     rw[h] at e;cases e
     exact .inr ⟨o,kvs,rfl,upd_same⟩
   · exact .inl (by rw[upd_ne hb];exact e)
 · have nb:b≠a:=fun z=>np (by rw[← z];exact q)
   rw[upd_ne nb]
theorem RS.lock (r:RS X.K cl H S P){a:Addr}{o:Obj}{kvs:List (Key×V)}(h:H a=some (.dK kvs))(hs:S a=none)(np:¬P a):RS X.K cl (upd H a (.frz o (.dK kvs))) S P:=by
 have le:=Le.lock (o:=o) r h hs np
 refine⟨fun b mo e=>?_,fun b q=>?_,XL r (.inr ⟨_,h,trivial⟩)⟩
 · obtain⟨nb,m⟩:=r.own b mo e
   exact⟨nb,r.le_own le m (upd_ne fun z=>by rw[z,hs] at e;cases e)⟩
 · obtain⟨s,u,e,mu⟩:=r.hid b q
   have nb:b≠a:=fun z=>np (by rw[← z];exact q)
   exact⟨s,u,by rw[upd_ne nb];exact e,mu⟩
theorem Zhh {a:Addr}{o:Obj}{kvs:List (Key×V)}(I1:Inv X pins σ H s)(hd:H a=some (.frz o (.dK kvs)))(q:R (Itk a o kvs) H):wpAny (model X.prog X.w) X.A (pyIter (.ref a)) (PIE X pins σ tg R) X.xe s:=by
 obtain⟨hs,hgd,hx,es,ep,vs,hdt,hsz,_,_⟩:=I1.frzK hd
 refine iter_keys hs hgd hx hdt (pi_one (tk:=s.toks) I1 _ (turn_keys _ hdt) ⟨_,Heap.get?_push_size _ rfl,rfl,?_⟩ q)
 rw[hsz] <;> rfl
theorem Zgc {e:Expr}{te:TE}(he:PE X e te):PI X tg e (iIt X cl te):=by
 refine⟨fun pins s σ H R I h=>?_⟩
 refine thn (he.run pins s σ H _ I h) fun v s1 ⟨x,H1,I1,r1,S,P,d,items,rs,r,hs,q⟩=>?_
 cases r with
 | str x=>
   obtain⟨t,rfl⟩:=r1
   exact Zm5 I1 (q _ _ (Le.refl rs) rs Zi3)
 | tup e1 q1=>
   cases r1
   exact Zm6 I1 e1.t (q _ _ (Le.refl rs) rs Zi4)
 | lst e1 s1 p1 q1=>
   cases r1
   exact Ze9 I1 (SqL.of e1) (q _ _ (Le.refl rs) rs (ZbT fun _=>rfl))
 | obj a=>
   cases r1
   obtain⟨a',xs,e,ha,_⟩:=ZM rs (.obj a) hs
   cases e
   exact Ze9 I1 (SqL.of ha) (q _ _ (Le.refl rs) rs (ZbT fun _=>rfl))
 | _=>cases hs
def iKy (X:Cx)(cl:ClsT)(te:TE):TI:=fun σ H R=>te σ H fun v H1=>∃S P d items,RS X.K cl H1 S P∧Rep X.K H1 S P v d∧srcD .keys S [d]=some items∧∀J H2,Le H1 S P H2 S→RS X.K cl H2 S P→ItOk X.K cl .keys [v] [d] J H2→R J H2
theorem Zgd {e:Expr}{te:TE}(he:PE X e te):PI X tg e (iKy X cl te):=by
 refine⟨fun pins s σ H R I h=>?_⟩
 refine thn (he.run pins s σ H _ I h) fun v s1 ⟨x,H1,I1,r1,S,P,d,items,rs,r,hs,q⟩=>?_
 cases r with
 | dic e1 l1 q1=>
   cases r1
   rcases e1 with ⟨e1,s1,p1⟩ |⟨o,e1⟩
   · obtain⟨od,I2⟩:=I1.lock e1 trivial
     exact Zhh I2 upd_same (q _ _ (Le.lock rs e1 s1 p1) (RS.lock rs e1 s1 p1) (Zdj l1 upd_same))
   · exact Zhh I1 e1 (q _ _ (Le.refl rs) rs (Zdj l1 e1))
 | _=>cases hs
theorem Uf (a b:Int)(i:Nat):(ZN a b)[i]?=if i<(b - a).toNat then some (.int (a+(i:Nat))) else none:=by
 unfold ZN
 rw[List.getElem?_map]
 by_cases h:i<(b - a).toNat
 · rw[List.getElem?_range h,if_pos h];rfl
 · rw[List.getElem?_eq_none (by simpa using h),if_neg h];rfl
theorem Zhi {K:PySem.W.Frag}{vs:List V}{b:Int}:ItOk K cl .rng1 vs [.int b] (Itr 0 b.toNat) H0:=by
 intro H S P items _ rs rp h i
 have h:(if -(2 ^ 62)≤b∧b<2 ^ 62 then some (ZN 0 b) else none)=some items:=h
 split at h
 · cases h
   rw[Uf,Int.sub_zero]
   refine⟨fun d hd=>?_,fun hd=>?_⟩
   · split at hd
     · next hl=>cases hd;exact⟨hl,fun x H' ⟨e1,e2⟩=>by subst e1 e2;exact⟨Le.refl rs,rs,.int _⟩⟩
     · cases hd
   · split at hd
     · cases hd
     · next hl=>show b.toNat≤i;omega
 · cases h
theorem Zhj {K:PySem.W.Frag}{vs:List V}{a b:Int}:ItOk K cl .rng2 vs [.int a,.int b] (Itr a (b - a).toNat) H0:=by
 intro H S P items _ rs rp h i
 have h:(if(-(2 ^ 62)≤a∧a<2 ^ 62)∧-(2 ^ 62)≤b∧b<2 ^ 62 then some (ZN a b) else none)=some items:=h
 split at h
 · cases h
   rw[Uf]
   refine⟨fun d hd=>?_,fun hd=>?_⟩
   · split at hd
     · next hl=>cases hd;exact⟨hl,fun x H' ⟨e1,e2⟩=>by subst e1 e2;exact⟨Le.refl rs,rs,.int _⟩⟩
     · cases hd
   · split at hd
     · cases hd
     · next hl=>show(b - a).toNat≤i;omega
 · cases h
theorem ZbN:∀(ds:List D)(n i:Nat),(WP n ds)[i]?=(ds[i]?).map fun d=>.tup [.int ((n+i:Nat):Int),d]
 | [],_,_=>rfl
 | d :: r,n,0=>rfl
 | d :: r,n,i+1=>by
   rw[WP,List.getElem?_cons_succ,ZbN r (n+1) i,List.getElem?_cons_succ]
   have:n+1+i=n+(i+1):=by omega
   rw[this]
theorem Zea:∀(xs ys:List D)(i:Nat),(zipD xs ys)[i]?=(xs[i]?).bind fun x=>(ys[i]?).map fun y=>.tup [x,y]
 | [],_,i=>by simp[zipD]
 | _ :: _,[],i=>by cases i <;> simp[zipD]
 | x :: r,y :: t,0=>rfl
 | x :: r,y :: t,i+1=>by rw[zipD,List.getElem?_cons_succ,Zea r t i,List.getElem?_cons_succ,List.getElem?_cons_succ]
def Qv:D→Bool
 | .tup _=>true
 | _=>false
theorem ZjA {S:Za}{d:D}(h:Qv d=false):seqD S d=peel S d:=by
 cases d <;> first | rfl | cases h
theorem Wt {K:PySem.W.Frag}{H:Hp}{S:Za}{P:Addr→Prop}(rs:RS K cl H S P){v:V}{d:D}{ds:List D}(r:Rep K H S P v d)(h:seqD S d=some ds):∃a xs,v=.ref a∧SqX K (Qv d) H a xs∧Zb K H S P xs ds:=by
 cases e:Qv d with
 | true=>
   cases d <;> try cases e
   cases r with
   | tup ha q=>cases h;exact⟨_,_,rfl,ha.t,q⟩
 | false=>
   rw[ZjA e] at h
   obtain⟨a,xs,e1,ha,q⟩:=ZM rs r h
   exact⟨a,xs,e1,SqL.of ha,q⟩
theorem Zi2 {K:PySem.W.Frag}{a:Addr}{d:D}:ItOk K cl .enum [.ref a] [d] (ItnX K (Qv d) a) H0:=by
 intro H S P items _ rs rp h i
 have h:(seqD S d).map (WP 0)=some items:=h
 cases e:seqD S d with
 | none=>rw[e] at h;cases h
 | some ds=>
   rw[e] at h
   cases h
   cases rp with
   | cons r _=>
     obtain⟨a',xs,e1,ha,q⟩:=Wt rs r e
     cases e1
     rw[ZbN]
     refine⟨fun z hz=>?_,fun hz=>?_⟩
     · cases e2:ds[i]? with
       | none=>rw[e2] at hz;cases hz
       | some y=>
         rw[e2] at hz
         cases hz
         obtain⟨v,hv,rv⟩:=q.get e2
         refine⟨⟨v,xs,ha,hv⟩,fun x H' hy=>?_⟩
         obtain⟨T,w,o,rfl,hT,hn,rfl,f⟩:=hy
         have:=f _ ha
         rw[hv] at this;cases this
         refine⟨Le.new rs hT,rs.new hT,.tup ⟨o,upd_same,hn⟩ (.cons ?_ (.cons (Rep.le rs (Le.new rs hT) _ rv) .nil))⟩
         rw[Nat.zero_add]
         exact .int _
     · cases e2:ds[i]? with
       | none=>exact⟨xs,ha,by rw[q.length];exact List.getElem?_eq_none_iff.mp e2⟩
       | some y=>rw[e2] at hz;cases hz
theorem Zk7 {K:PySem.W.Frag}{a b:Addr}{d d':D}:ItOk K cl .zip [.ref a,.ref b] [d,d'] (ItzX K (Qv d) (Qv d') a b) H0:=by
 intro H S P items _ rs rp h i
 have h:(match seqD S d,seqD S d' with | some xs,some ys=>some (zipD xs ys) | _,_=>none)=some items:=h
 split at h
 · next ds es h1 h2=>
   cases h
   cases rp with
   | cons r t=>
   cases t with
   | cons r' _=>
   obtain⟨a',xs,e1,ha,q⟩:=Wt rs r h1
   cases e1
   obtain⟨b',ys,e1,hb,q'⟩:=Wt rs r' h2
   cases e1
   rw[Zea]
   refine⟨fun z hz=>?_,fun hz=>?_⟩
   · cases e2:ds[i]? with
     | none=>rw[e2] at hz;cases hz
     | some y=>
       cases e3:es[i]? with
       | none=>rw[e2,e3] at hz;cases hz
       | some y'=>
         rw[e2,e3] at hz
         cases hz
         obtain⟨v,hv,rv⟩:=q.get e2
         obtain⟨v',hv',rv'⟩:=q'.get e3
         refine⟨⟨v,v',xs,ys,ha,hb,hv,hv'⟩,fun x H' hy=>?_⟩
         obtain⟨T,w,w',o,rfl,hT,hn,rfl,f,f'⟩:=hy
         have:=f _ ha
         rw[hv] at this;cases this
         have:=f' _ hb
         rw[hv'] at this;cases this
         exact⟨Le.new rs hT,rs.new hT,.tup ⟨o,upd_same,hn⟩ (.cons (Rep.le rs (Le.new rs hT) _ rv) (.cons (Rep.le rs (Le.new rs hT) _ rv') .nil))⟩
   · refine⟨xs,ys,ha,hb,?_⟩
     rw[q.length,q'.length]
     cases e2:ds[i]? with
     | none=>exact .inl (List.getElem?_eq_none_iff.mp e2)
     | some y=>
       cases e3:es[i]? with
       | none=>exact .inr (List.getElem?_eq_none_iff.mp e3)
       | some y'=>rw[e2,e3] at hz;cases hz
 · cases h
end
def lenT:Tg→Nat
 | .tp _ r=>lenT r+1
 | _=>0
mutual
def gT (K:PySem.W.Frag):Tg→TG
 | .nm i=>gName i
 | .tp a r=>gTup K (lenT r+1) (gCons (gT K a) (gTs K r))
 | .nil=>fun _ _ _ _=>False
def gTs (K:PySem.W.Frag):Tg→TGs
 | .tp a r=>gCons (gT K a) (gTs K r)
 | .nil=>gNil
 | .nm _=>fun _ _ _ _=>False
end
theorem Zc1 {X:Cx}(c:Cd):∀(t:Tg)(es:List Expr),XT c t es=true→(assignEach es X.env).length=lenT t∧(assignEach es X.env).findIdx? (·.1)=none
 | .nil,es,h=>by
   unfold XT at h
   cases es with
   | nil=>exact⟨rfl,rfl⟩
   | cons e es=>cases h
 | .nm _,es,h=>by unfold XT at h;cases h
 | .tp a r,es,h=>by
   unfold XT at h
   cases es with
   | nil=>cases h
   | cons e es=>
     simp only[Bool.and_eq_true] at h
     obtain⟨h1,h2⟩:=Zc1 (X:=X) c r es h.2
     have he:(assignEach (e :: es) X.env)=(false,assign e X.env) :: assignEach es X.env:=by
      cases e <;> first | rfl | (exfalso;cases a <;> (unfold chkT at h;cases h.1))
     rw[he]
     refine⟨by rw[List.length_cons,h1];rfl,?_⟩
     rw[List.findIdx?_cons]
     simp[h2]
theorem Zd9 {c:Cd}{X:Cx}(C:XC c X){x:Str}(h:locC c x=true):Loc X.env.scope x∧(X.fn x=true∨X.env.scope.names.lookup x=some .local):=by
 unfold locC at h
 rw[← C.sc] at h
 split at h
 · next e=>exact⟨.inl e,.inr e⟩
 · next e=>exact⟨.inr e,.inl (C.fn x h)⟩
 · cases h
mutual
theorem Qw {Γ:Gam}{cl:ClsT}{k:Nat}{X:Cx}{c:Cd}(F:XF Γ cl k X)(C:XC c X):∀(t:Tg)(e:Expr),chkT c t e=true→PG X e (gT X.K t)
 | .nm i,e,h=>by
   unfold chkT at h
   split at h
   · next x pos=>
     simp only[Bool.and_eq_true,decide_eq_true_eq] at h
     obtain⟨h1,h2⟩:=Zd9 C h.2
     exact pg_name F.nd (by rw[C.n];exact h.1) h1 h2
   · cases h
 | .tp a r,e,h=>by
   unfold chkT at h
   split at h
   · next e1 es kk pos=>
     simp only[Bool.and_eq_true] at h
     have hh:XT c (.tp a r) (e1 :: es)=true:=by unfold XT;simp only[Bool.and_eq_true];exact h
     obtain⟨h1,h2⟩:=Zc1 (X:=X) c (.tp a r) (e1 :: es) hh
     have he:(assignEach (e1 :: es) X.env).map (·.2)=assign e1 X.env :: (assignEach es X.env).map (·.2):=by
      cases e1 <;> first | rfl | (exfalso;cases a <;> (unfold chkT at h;cases h.1))
     exact pg_tup F.calm (pgs_cons (Qw F C a e1 h.1) (ZhS F C r es h.2) he) h1 h2
   · cases h
 | .nil,e,h=>by unfold chkT at h;cases h
theorem ZhS {Γ:Gam}{cl:ClsT}{k:Nat}{X:Cx}{c:Cd}(F:XF Γ cl k X)(C:XC c X):∀(t:Tg)(es:List Expr),XT c t es=true→PGs X es (gTs X.K t)
 | .nil,es,h=>by
   unfold XT at h
   cases es with
   | nil=>exact pgs_nil
   | cons e es=>cases h
 | .nm _,es,h=>by unfold XT at h;cases h
 | .tp a r,es,h=>by
   unfold XT at h
   cases es with
   | nil=>cases h
   | cons e es=>
     simp only[Bool.and_eq_true] at h
     have he:(assignEach (e :: es) X.env).map (·.2)=assign e X.env :: (assignEach es X.env).map (·.2):=by
      cases e <;> first | rfl | (exfalso;cases a <;> (unfold chkT at h;cases h.1))
     exact pgs_cons (Qw F C a e h.1) (ZhS F C r es h.2) he
end
theorem Wu (σ:L2.St):∀(vs:List Nat)(j:Nat),(wipe σ vs)[j]?=if j∈vs∧j<σ.length then some none else σ[j]?
 | [],j=>by simp[wipe]
 | v :: vs,j=>by
   unfold wipe
   rw[List.getElem?_set,wipe_length,Wu σ vs j]
   by_cases h:v=j
   · subst h
     by_cases hl:v<σ.length
     · simp[hl]
     · simp[hl]
   · rw[if_neg h]
     have:j∈v :: vs↔j∈vs:=by simp[Ne.symm h]
     simp only[this]
theorem ZjO {σ:L2.St}{i:Nat}{x:Option V}{own:List Nat}(h:i∈own):wipe (σ.set i x) own=wipe σ own:=by
 apply List.ext_getElem?
 intro j
 rw[Wu,Wu,List.length_set,List.getElem?_set]
 by_cases hj:i=j
 · subst hj
   by_cases hl:i<σ.length
   · rw[if_pos ⟨h,hl⟩,if_pos ⟨h,hl⟩]
   · have hn:σ[i]?=none:=List.getElem?_eq_none (by simpa using hl)
     simp[hl,hn]
 · rw[if_neg hj]
theorem Ziq (σ:L2.St)(own:List Nat):wipe (wipe σ own) own=wipe σ own:=by
 apply List.ext_getElem?
 intro j
 rw[Wu,Wu,wipe_length]
 split <;> rfl
theorem Qk (ρ:DEnv):∀(vs:List Nat)(j:Nat),(wipeD ρ vs)[j]?=if j∈vs∧j<ρ.length then some none else ρ[j]?
 | [],j=>by simp[wipeD]
 | v :: vs,j=>by
   have hl:(wipeD ρ vs).length=ρ.length:=wipeD_length ρ vs
   unfold wipeD
   rw[List.getElem?_set,hl,Qk ρ vs j]
   by_cases h:v=j
   · subst h
     by_cases hl:v<ρ.length
     · simp[hl]
     · simp[hl]
   · rw[if_neg h]
     have:j∈v :: vs↔j∈vs:=by simp[Ne.symm h]
     simp only[this]
where
 wipeD_length (ρ:DEnv):∀vs:List Nat,(wipeD ρ vs).length=ρ.length
  | []=>rfl
  | v :: vs=>by unfold wipeD;rw[List.length_set,wipeD_length ρ vs]
theorem REnv.wipe {K:PySem.W.Frag}{H:Hp}{S:Za}{P:Addr→Prop}{σ:L2.St}{ρ:DEnv}(e:REnv K H S P σ ρ)(own:List Nat):REnv K H S P (wipe σ own) (wipeD ρ own):=by
 refine⟨by rw[wipe_length,Qk.wipeD_length];exact e.1,fun i d h=>?_⟩
 rw[Qk] at h
 split at h
 · cases h
 · next hn=>
   obtain⟨v,h1,h2⟩:=e.2 i d h
   exact⟨v,by rw[Wu,if_neg (by rw[← e.1];exact hn)];exact h1,h2⟩
theorem Zb6:∀(t:Tg){ds:List D}{ρ ρ':DEnv},Ya t ds ρ=some ρ'→ds.length=lenT t
 | .nil,ds,ρ,ρ',h=>by
   cases ds with
   | nil=>rfl
   | cons d ds=>unfold Ya at h;cases h
 | .nm _,ds,ρ,ρ',h=>by unfold Ya at h;cases h
 | .tp a t,ds,ρ,ρ',h=>by
   cases ds with
   | nil=>unfold Ya at h;cases h
   | cons d ds=>
     unfold Ya at h
     cases e:setT a d ρ with
     | none=>rw[e] at h;cases h
     | some ρ1=>
       rw[e] at h
       rw[List.length_cons,Zb6 t h]
       rfl
section
variable {K:PySem.W.Frag}{H:Hp}{S:Za}{P:Addr→Prop}
mutual
theorem QA:∀(t:Tg){v:V}{d:D}{σ:L2.St}{ρ ρ':DEnv}{Q:L2.St→Hp→Prop},Rep K H S P v d→REnv K H S P σ ρ→setT t d ρ=some ρ'→(∀σ',REnv K H S P σ' ρ'→(∀own:List Nat,(∀i∈Y5 t,i∈own)→wipe σ' own=wipe σ own)→Q σ' H)→gT K t v σ H Q
 | .nm i,v,d,σ,ρ,ρ',Q,r,e,h,q=>by
   unfold setT at h
   cases h
   refine q _ (e.set i r) fun own ho=>?_
   exact ZjO (ho i (by simp[Y5]))
 | .tp a t,v,d,σ,ρ,ρ',Q,r,e,h,q=>by
   cases r with
   | @tup _ _ ds e1 q1=>
     have h:Ya (.tp a t) ds ρ=some ρ':=by unfold setT at h;exact h
     have hl:=Zb6 (.tp a t) h
     refine⟨_,_,rfl,e1.t,by rw[q1.length,hl];rfl,?_⟩
     exact ZdU (.tp a t) q1 e h q
   | _=>unfold setT at h;cases h
 | .nil,v,d,σ,ρ,ρ',Q,r,e,h,q=>by unfold setT at h;cases h
theorem ZdU:∀(t:Tg){vs:List V}{ds:List D}{σ:L2.St}{ρ ρ':DEnv}{Q:L2.St→Hp→Prop},Zb K H S P vs ds→REnv K H S P σ ρ→Ya t ds ρ=some ρ'→(∀σ',REnv K H S P σ' ρ'→(∀own:List Nat,(∀i∈Y5 t,i∈own)→wipe σ' own=wipe σ own)→Q σ' H)→gTs K t vs σ H Q
 | .nil,vs,ds,σ,ρ,ρ',Q,r,e,h,q=>by
   cases r with
   | nil=>
     unfold Ya at h
     cases h
     exact⟨rfl,q σ e fun _ _=>rfl⟩
   | cons _ _=>unfold Ya at h;cases h
 | .nm _,vs,ds,σ,ρ,ρ',Q,r,e,h,q=>by unfold Ya at h;cases h
 | .tp a t,vs,ds,σ,ρ,ρ',Q,r,e,h,q=>by
   cases r with
   | nil=>unfold Ya at h;cases h
   | cons r1 r2=>
     unfold Ya at h
     split at h
     · next ρ1 h1=>
       refine⟨_,_,rfl,QA a r1 e h1 fun σ1 e1 w1=>ZdU t r2 e1 h fun σ2 e2 w2=>q σ2 e2 fun own ho=>?_⟩
       rw[w2 own (fun i hi=>ho i (by simp[Y5,hi])),w1 own (fun i hi=>ho i (by simp[Y5,hi]))]
     · cases h
end
end
end Sw
namespace Sw
open PySem PySem.Spec PyProof.Rows L2
def ZcB (K:PySem.W.Frag)(cl:ClsT)(Q:List D→Za→Prop)(H:Hp)(S:Za)(P:Addr→Prop):List V→Hp→Prop:=fun vs H'=>∃ds S',Le H S P H' S'∧RS K cl H' S' P∧Zb K H' S' P vs ds∧Q ds S'
def liftT (K:PySem.W.Frag)(cl:ClsT)(Q:Bool→Za→Prop)(H:Hp)(S:Za)(P:Addr→Prop):Bool→Hp→Prop:=fun b H'=>∃S',Le H S P H' S'∧RS K cl H' S' P∧Q b S'
def DE (Γ:Gam)(cl:ClsT)(X:Cx)(e:Expr)(m:M):Prop:=∀σ H ρ S P Q,RS X.K cl H S P→REnv X.K H S P σ ρ→wE Γ m ρ S Q→cE X e σ H (lift X.K cl (Vs m) Q H S P)
def DT (Γ:Gam)(cl:ClsT)(X:Cx)(e:Expr)(m:M):Prop:=∀σ H ρ S P Q,RS X.K cl H S P→REnv X.K H S P σ ρ→wT Γ m ρ S Q→cT X e σ H (liftT X.K cl Q H S P)
def Zbk:Expr→Bool
 | .BoolOp ..=>true
 | _=>false
def DW (Γ:Gam)(cl:ClsT)(X:Cx)(e:Expr)(m:M):Prop:=Zbk e=true→∀σ H ρ S P Q,RS X.K cl H S P→REnv X.K H S P σ ρ→wT Γ m ρ S Q→cW X e σ H (liftT X.K cl Q H S P)
def DAs (Γ:Gam)(cl:ClsT)(X:Cx)(es:List Expr)(as:Ms):Prop:=∀σ H ρ S P Q,RS X.K cl H S P→REnv X.K H S P σ ρ→wEs Γ as ρ S Q→cA X es σ H (ZcB X.K cl Q H S P)
structure All3 (Γ:Gam)(cl:ClsT)(X:Cx)(e:Expr)(m:M):Prop where
 ex:DE Γ cl X e m
 te:DT Γ cl X e m
 wh:DW Γ cl X e m
section
variable {Γ:Gam}{cl:ClsT}{k:Nat}{X:Cx}{c:Cd}
theorem ZiZ {e:Expr}{env:Env}(h:Xj e=true):∀whole,isTrue e env whole=(do let v ← whole;standAt e.pos;holding [v] (truthy v)):=by
 intro whole
 cases e with
 | UnaryOp op x p=>cases op <;> first | rfl | cases h
 | BoolOp=>cases h
 | IfExp=>cases h
 | Compare=>cases h
 | _=>rfl
theorem ZmM {e:Expr}{m:M}(h:Xj e=true)(d:DE Γ cl X e m):DT Γ cl X e m:=by
 intro σ H ρ S P Q rs re hw
 refine WM (pt_truth c_e (ZiZ h)) ?_
 refine Ze (d σ H ρ S P _ rs re hw) fun v H' ⟨d,S',le,rs',r,q,_⟩=>?_
 cases e1:truD S' d with
 | none=>
   have q:optB (truD S' d) fun t=>Q t S':=q
   rw[e1] at q;exact q.elim
 | some b=>
   have q:optB (truD S' d) fun t=>Q t S':=q
   rw[e1] at q
   exact⟨b,QD rs' r e1,S',le,rs',q⟩
theorem WO {e:Expr}{m:M}(h:Zbk e=false):DW Γ cl X e m:=fun z=>by rw[h] at z;cases z
theorem ZiY {e:Expr}(h:Xj e=true):Zbk e=false:=by
 cases e <;> first | rfl | cases h
theorem all_gen {e:Expr}{m:M}(h:Xj e=true)(d:DE Γ cl X e m):All3 Γ cl X e m:=⟨d,ZmM h d,WO (ZiY h)⟩
def r2 (X:Cx)(cl:ClsT)(f:Za→D→D→Option D):R2:=fun x y H Q=>∃S P dx dy z,RS X.K cl H S P∧Rep X.K H S P x dx∧Rep X.K H S P y dy∧f S dx dy=some z∧∀v H',lift X.K cl true (Just z S) H S P v H'→Q v H'
theorem ZnB (o:Operator):OpR X (binaryOp o) (r2 X cl (binD o)):=by
 intro pins s σ H x y v u Q I rx ry ⟨S,P,dx,dy,z,rs,r1,r2,h,q⟩
 exact thn (ZkB o rs r1 r2 h I rx ry) fun w s' ⟨v,H',I',r,l⟩=>⟨v,H',I',r,q v H' l⟩
theorem VA (hu:X.A.units+100<cLine)(o:CmpOp):OpR X (compareOp o) (r2 X cl (cmpD o)):=by
 intro pins s σ H x y v u Q I rx ry ⟨S,P,dx,dy,z,rs,r1,r2,h,q⟩
 unfold cmpD at h
 cases e:cmpB o S dx dy with
 | none=>rw[e] at h;cases h
 | some b=>
   rw[e] at h
   cases h
   exact thn (ZkE o rs r1 r2 e hu I rx ry) fun w s' ⟨v,H',I',r,l⟩=>⟨v,H',I',r,q v H' l⟩
theorem Zg {e:Expr}{es:List Expr}{env:Env}(h:Zi e=true):starEach (e :: es) env=(false,eval e env) :: starEach es env:=by
 cases e <;> first | rfl | cases h
theorem QR {o:CmpOp}{e:Expr}(h:Zi e=true):behindInMarks o e=false:=by
 cases e <;> first | rfl | cases h
theorem W4 {e:Expr}{env:Env}(h:Zi e=true):∀x,foldedSetIterable e env x=pure x:=by
 intro x
 cases e <;> first | rfl | cases h
theorem Zjs {e:Expr}(h:Zi e=true):PlainIx e:=by
 intro o i
 cases e <;> first | rfl | cases h
theorem ZV (c:Cd):∀(as:Ms)(es:List Expr)(env:Env)(pos:Pos),chks c as es=true→(backTo pos (starEach es env)).any (·.1)=false
 | .nil,es,env,pos,h=>by
   unfold chks at h
   cases es with
   | nil=>rfl
   | cons _ _=>cases h
 | .cons a r,es,env,pos,h=>by
   unfold chks at h
   cases es with
   | nil=>cases h
   | cons e es=>
     simp only[Bool.and_eq_true] at h
     rw[Zg h.1.1]
     have:=ZV c r es env pos h.2
     show(false || (backTo pos (starEach es env)).any (·.1))=false
     rw[this]
     rfl
theorem Zby {f:Za→D→D→Option D}{a b:Expr}{ma mb:M}(ha:DE Γ cl X a ma)(hb:DE Γ cl X b mb){σ:L2.St}{H:Hp}{ρ:DEnv}{S:Za}{P:Addr→Prop}{Q:Qd}(rs:RS X.K cl H S P)(re:REnv X.K H S P σ ρ)
  (h:wE Γ ma ρ S fun x S1=>wE Γ mb ρ S1 fun y S2=>optD (f S2 x y) fun z=>Q z S2):tOp (r2 X cl f) (cE X a) (cE X b) σ H (lift X.K cl true Q H S P):=by
 refine Ze (ha σ H ρ S P _ rs re h) fun v H1 ⟨x,S1,le1,rs1,r1,q1,_⟩=>?_
 refine Ze (hb σ H1 ρ S1 P _ rs1 (re.le rs le1) q1) fun u H2 ⟨y,S2,le2,rs2,ry,q2,_⟩=>?_
 cases e:f S2 x y with
 | none=>have q2:optD (f S2 x y) fun z=>Q z S2:=q2;rw[e] at q2;exact q2.elim
 | some z=>
   have q2:optD (f S2 x y) fun z=>Q z S2:=q2
   rw[e] at q2
   refine⟨S2,P,x,y,z,rs2,Rep.le rs1 le2 _ r1,ry,e,fun w H3 l=>?_⟩
   exact Ye (le1.trans le2) (Yu l (fun d S' ⟨e1,e2⟩=>by subst e1 e2;exact q2) fun _=>rfl)
theorem Zht {f:Bool}{K:PySem.W.Frag}{Q:Qd}{H H':Hp}{S:Za}{P:Addr→Prop}{v:V}(h:lift K cl true Q H S P v H'):lift K cl f Q H S P v H':=Yu h (fun _ _ q=>q) fun _=>rfl
theorem QE {K:PySem.W.Frag}{H:Hp}{S:Za}{P:Addr→Prop}{v:V}{b:Bool}(r:Rep K H S P v (.bl b)):v=.bl b:=by cases r;rfl
theorem ZmL {a b:Expr}{o:CmpOp}{ma mb:M}{pos:Pos}(hu:X.A.units+100<cLine)(hm:behindInMarks o b=false)(ha:DE Γ cl X a ma)(hb:DE Γ cl X b mb):All3 Γ cl X (.Compare a [o] [b] pos) (.cmp o ma mb):=by
 refine⟨fun σ H ρ S P Q rs re h=>?_,fun σ H ρ S P Q rs re h=>?_,WO rfl⟩
 · refine Zu (pe_cmpR (VA (cl:=cl) hu o) c_e c_e hm) ?_
   unfold wE at h
   have:=Zby (f:=cmpD o) (Q:=Q) ha hb rs re (by
    refine cast ?_ h
    congr 1
    funext x S1
    congr 1
    funext y S2
    unfold cmpD
    cases cmpB o S2 x y <;> rfl)
   refine Ze this fun v H1 q=>Ze q fun u H2 q=>?_
   obtain⟨S',P',dx,dy,z,r1,r2,r3,r4,r5⟩:=q
   exact⟨S',P',dx,dy,z,r1,r2,r3,r4,fun w H3 l=>Zht (r5 w H3 l)⟩
 · refine WM (pt_cmpR (VA (cl:=cl) hu o) c_e c_e hm) ?_
   unfold wT wE at h
   have:=Zby (f:=cmpD o) (Q:=fun d S'=>∃b,d=.bl b∧Q b S') ha hb rs re (by
    refine cast ?_ h
    congr 1
    funext x S1
    congr 1
    funext y S2
    unfold cmpD
    cases cmpB o S2 x y with
    | none=>rfl
    | some b=>
      apply propext
      constructor
      · intro q;exact⟨b,rfl,q⟩
      · rintro⟨b',e,q⟩;cases e;exact q)
   show tTest (tOp (r2 X cl (cmpD o)) (cE X a) (cE X b)) σ H _
   refine Ze this fun v H1 q=>Ze q fun u H2 q=>?_
   obtain⟨S',P',dx,dy,z,r1,r2,r3,r4,r5⟩:=q
   refine⟨S',P',dx,dy,z,r1,r2,r3,r4,fun w H3 l=>?_⟩
   obtain⟨d,S3,le,rs3,r,⟨b,e,q⟩,_⟩:=r5 w H3 l
   subst e
   exact⟨b,QE r,S3,le,rs3,q⟩
theorem YU {f f':Bool}{K:PySem.W.Frag}{Q:Qd}{H H':Hp}{S:Za}{P:Addr→Prop}{v:V}(h:lift K cl f Q H S P v H')(hf:f'=false):lift K cl f' Q H S P v H':=Yu h (fun _ _ q=>q) fun e=>by rw[hf] at e;cases e
theorem ZeW {l r:Expr}{es:List Expr}{pos:Pos}{ma mb:M}(ha:All3 Γ cl X l ma)(hb:DE Γ cl X (.BoolOp .And (r :: es) pos) mb)(hw:DW Γ cl X (.BoolOp .And (r :: es) pos) mb):All3 Γ cl X (.BoolOp .And (l :: r :: es) pos) (.and ma mb):=by
 have W:DW Γ cl X (.BoolOp .And (l :: r :: es) pos) (.and ma mb):=by
  intro _ σ H ρ S P Q rs re h
  refine Zcx (pw_and c_t c_w) ?_
  unfold wT wE at h
  have e:(fun(x:D)(S1:Za)=>optB (truD S1 x) fun t=>if t=true then wE Γ mb ρ S1 (fun x S1=>optB (truD S1 x) fun t=>Q t S1) else optB (truD S1 x) fun t=>Q t S1)=(fun(x:D)(S1:Za)=>optB (truD S1 x) fun t=>if t=true then wT Γ mb ρ S1 Q else Q false S1):=by
   funext x S1
   cases h:truD S1 x with
   | none=>rfl
   | some b=>cases b <;> rfl
  rw[e] at h
  refine Y9 (ha.te σ H ρ S P _ rs re h) fun b H1 ⟨S1,le,rs1,q⟩=>?_
  cases b with
  | true=>
    rw[if_pos rfl] at q
    rw[if_pos rfl]
    refine ZeZ (hw rfl σ H1 ρ S1 P Q rs1 (re.le rs le) q) fun b H2 ⟨S2,le2,rs2,q⟩=>⟨S2,le.trans le2,rs2,q⟩
  | false=>
    rw[if_neg Bool.false_ne_true] at q
    rw[if_neg Bool.false_ne_true]
    exact⟨S1,le,rs1,q⟩
 refine⟨fun σ H ρ S P Q rs re h=>?_,fun σ H ρ S P Q rs re h pins s I=>W rfl σ H ρ S P Q rs re h _ pins s I,W⟩
 refine Zu (pe_andT c_e c_e) ?_
 unfold wE at h
 refine Ze (ha.ex σ H ρ S P _ rs re h) fun v H1 ⟨x,S1,le1,rs1,r1,q,_⟩=>?_
 have q:optB (truD S1 x) fun t=>if t=true then wE Γ mb ρ S1 Q else Q x S1:=q
 cases e1:truD S1 x with
 | none=>rw[e1] at q;exact q.elim
 | some b=>
   rw[e1] at q
   refine⟨b,QD rs1 r1 e1,?_⟩
   cases b with
   | true=>
     rw[if_pos rfl]
     exact Ze (hb σ H1 ρ S1 P Q rs1 (re.le rs le1) q) fun v H2 l=>YU (Ye le1 l) rfl
   | false=>
     rw[if_neg Bool.false_ne_true]
     exact Zw le1 rs1 r1 q (.inr rfl)
theorem ZgM {l r:Expr}{es:List Expr}{pos:Pos}{ma mb:M}(ha:All3 Γ cl X l ma)(hb:DE Γ cl X (.BoolOp .Or (r :: es) pos) mb)(hw:DW Γ cl X (.BoolOp .Or (r :: es) pos) mb):All3 Γ cl X (.BoolOp .Or (l :: r :: es) pos) (.or ma mb):=by
 have W:DW Γ cl X (.BoolOp .Or (l :: r :: es) pos) (.or ma mb):=by
  intro _ σ H ρ S P Q rs re h
  refine Zcx (pw_or c_t c_w) ?_
  unfold wT wE at h
  have e:(fun(x:D)(S1:Za)=>optB (truD S1 x) fun t=>if t=true then optB (truD S1 x) fun t=>Q t S1 else wE Γ mb ρ S1 (fun x S1=>optB (truD S1 x) fun t=>Q t S1))=(fun(x:D)(S1:Za)=>optB (truD S1 x) fun t=>if t=true then Q true S1 else wT Γ mb ρ S1 Q):=by
   funext x S1
   cases h:truD S1 x with
   | none=>rfl
   | some b=>cases b <;> rfl
  rw[e] at h
  refine Y9 (ha.te σ H ρ S P _ rs re h) fun b H1 ⟨S1,le,rs1,q⟩=>?_
  cases b with
  | false=>
    rw[if_neg Bool.false_ne_true] at q
    rw[if_neg Bool.false_ne_true]
    refine ZeZ (hw rfl σ H1 ρ S1 P Q rs1 (re.le rs le) q) fun b H2 ⟨S2,le2,rs2,q⟩=>⟨S2,le.trans le2,rs2,q⟩
  | true=>
    rw[if_pos rfl] at q
    rw[if_pos rfl]
    exact⟨S1,le,rs1,q⟩
 refine⟨fun σ H ρ S P Q rs re h=>?_,fun σ H ρ S P Q rs re h pins s I=>W rfl σ H ρ S P Q rs re h _ pins s I,W⟩
 refine Zu (pe_orT c_e c_e) ?_
 unfold wE at h
 refine Ze (ha.ex σ H ρ S P _ rs re h) fun v H1 ⟨x,S1,le1,rs1,r1,q,_⟩=>?_
 have q:optB (truD S1 x) fun t=>if t=true then Q x S1 else wE Γ mb ρ S1 Q:=q
 cases e1:truD S1 x with
 | none=>rw[e1] at q;exact q.elim
 | some b=>
   rw[e1] at q
   refine⟨b,QD rs1 r1 e1,?_⟩
   cases b with
   | false=>
     rw[if_neg Bool.false_ne_true]
     exact Ze (hb σ H1 ρ S1 P Q rs1 (re.le rs le1) q) fun v H2 l=>YU (Ye le1 l) rfl
   | true=>
     rw[if_pos rfl]
     exact Zw le1 rs1 r1 q (.inr rfl)
theorem Zj3 {op:BoolOp}{r:Expr}{pos:Pos}{m:M}(h:DE Γ cl X r m):DE Γ cl X (.BoolOp op [r] pos) m:=fun σ H ρ S P Q rs re hw=>Zu (pe_one c_e) (h σ H ρ S P Q rs re hw)
theorem Znz {r:Expr}{pos:Pos}{m:M}(h:DT Γ cl X r m):DW Γ cl X (.BoolOp .And [r] pos) m:=fun _ σ H ρ S P Q rs re hw=>Zcx (pw_and1 c_t) (h σ H ρ S P Q rs re hw)
theorem ZnA {r:Expr}{pos:Pos}{m:M}(h:DT Γ cl X r m):DW Γ cl X (.BoolOp .Or [r] pos) m:=fun _ σ H ρ S P Q rs re hw=>Zcx (pw_or1 c_t) (h σ H ρ S P Q rs re hw)
theorem Zkt {x:Expr}{pos:Pos}{m:M}(h:All3 Γ cl X x m):All3 Γ cl X (.UnaryOp .Not x pos) (.not m):=by
 refine⟨fun σ H ρ S P Q rs re hw=>?_,fun σ H ρ S P Q rs re hw=>?_,WO rfl⟩
 · refine Zu (pe_notT c_e) ?_
   unfold wE at hw
   refine Ze (h.ex σ H ρ S P _ rs re hw) fun v H1 ⟨x,S1,le1,rs1,r1,q,_⟩=>?_
   have q:optB (truD S1 x) fun t=>Q (.bl (!t)) S1:=q
   cases e1:truD S1 x with
   | none=>rw[e1] at q;exact q.elim
   | some b=>
     rw[e1] at q
     exact⟨b,QD rs1 r1 e1,Zw le1 rs1 (.bl _) q (.inr rfl)⟩
 · refine WM (pt_not c_t) ?_
   unfold wT wE at hw
   have e:(fun(x:D)(S1:Za)=>optB (truD S1 x) fun t=>optB (truD S1 (.bl (!t))) fun t=>Q t S1)=(fun(x:D)(S1:Za)=>optB (truD S1 x) fun t=>Q (!t) S1):=by
    funext x S1
    cases truD S1 x <;> rfl
   rw[e] at hw
   exact Y9 (h.te σ H ρ S P _ rs re hw) fun b H1 ⟨S1,le,rs1,q⟩=>⟨S1,le,rs1,q⟩
theorem ZpB {a b d:Expr}{pos:Pos}{ta tb td:TT}(hd:PT X d td)(ha:PT X a ta)(hb:PT X b tb):PT X (.IfExp d a b pos) (fun σ H Q=>td σ H fun k H1=>if k=true then ta σ H1 Q else tb σ H1 Q):=by
 refine⟨fun pins s σ H Q I h=>?_⟩
 show wpAny _ _ (isTrue d X.env (eval d X.env) >>= fun k=>if k=true then isTrue a X.env (eval a X.env) else isTrue b X.env (eval b X.env)) _ _ s
 refine wpAny_bind (thn (hd.run pins s σ H _ I h) fun k s1 ⟨H1,I1,q⟩=>?_)
 cases k with
 | true=>exact ha.run pins s1 σ H1 Q I1 q
 | false=>exact hb.run pins s1 σ H1 Q I1 q
theorem Zks {a b d:Expr}{pos:Pos}{ma mb md:M}(hd:All3 Γ cl X d md)(ha:All3 Γ cl X a ma)(hb:All3 Γ cl X b mb):All3 Γ cl X (.IfExp d a b pos) (.ite md ma mb):=by
 refine⟨fun σ H ρ S P Q rs re hw=>?_,fun σ H ρ S P Q rs re hw=>?_,WO rfl⟩
 · refine Zu (pe_ifExp c_t c_e c_e) ?_
   unfold wE at hw
   refine Y9 (hd.te σ H ρ S P _ rs re hw) fun k H1 ⟨S1,le,rs1,q⟩=>?_
   cases k with
   | true=>exact Ze (ha.ex σ H1 ρ S1 P Q rs1 (re.le rs le) q) fun v H2 l=>YU (Ye le l) rfl
   | false=>exact Ze (hb.ex σ H1 ρ S1 P Q rs1 (re.le rs le) q) fun v H2 l=>YU (Ye le l) rfl
 · refine WM (ZpB c_t c_t c_t) ?_
   unfold wT wE at hw
   have e:(fun(x:D)(S1:Za)=>optB (truD S1 x) fun t=>if t=true then wE Γ ma ρ S1 (fun x S1=>optB (truD S1 x) fun t=>Q t S1) else wE Γ mb ρ S1 (fun x S1=>optB (truD S1 x) fun t=>Q t S1))=(fun(x:D)(S1:Za)=>optB (truD S1 x) fun t=>if t=true then wT Γ ma ρ S1 Q else wT Γ mb ρ S1 Q):=rfl
   rw[e] at hw
   refine Y9 (hd.te σ H ρ S P _ rs re hw) fun k H1 ⟨S1,le,rs1,q⟩=>?_
   cases k with
   | true=>exact Y9 (ha.te σ H1 ρ S1 P Q rs1 (re.le rs le) q) fun v H2 ⟨S2,le2,rs2,q⟩=>⟨S2,le.trans le2,rs2,q⟩
   | false=>exact Y9 (hb.te σ H1 ρ S1 P Q rs1 (re.le rs le) q) fun v H2 ⟨S2,le2,rs2,q⟩=>⟨S2,le.trans le2,rs2,q⟩
theorem Zgf {o o':CmpOp}{a b:Expr}(h:Zi b=true):lastMarks [o,o'] [a,b]=false:=QR h
theorem ZgL {a b d:Expr}{o o':CmpOp}{ma mb md:M}{pos:Pos}(hu:X.A.units+100<cLine)(hm:lastMarks [o,o'] [b,d]=false)(ha:DE Γ cl X a ma)(hb:DE Γ cl X b mb)(hd:DE Γ cl X d md):All3 Γ cl X (.Compare a [o,o'] [b,d] pos) (.chain o o' ma mb md):=by
 have core:∀(σ:L2.St)(H:Hp)(ρ:DEnv)(S:Za)(P:Addr→Prop)(Q:Qd),RS X.K cl H S P→REnv X.K H S P σ ρ→wE Γ (.chain o o' ma mb md) ρ S Q→tChain (r2 X cl (cmpD o)) (r2 X cl (cmpD o')) (cE X a) (cE X b) (cE X d) σ H (lift X.K cl false Q H S P):=by
  intro σ H ρ S P Q rs re h
  unfold wE at h
  refine Ze (ha σ H ρ S P _ rs re h) fun v H1 ⟨x,S1,le1,rs1,rx,q1,_⟩=>?_
  refine Ze (hb σ H1 ρ S1 P _ rs1 (re.le rs le1) q1) fun u H2 ⟨y,S2,le2,rs2,ry,q2,_⟩=>?_
  have q2:optB (cmpB o S2 x y) fun z=>if z=true then wE Γ md ρ S2 fun w S3=>optB (cmpB o' S3 y w) fun z'=>Q (.bl z') S3 else Q (.bl false) S2:=q2
  cases e:cmpB o S2 x y with
  | none=>rw[e] at q2;exact q2.elim
  | some z=>
    rw[e] at q2
    refine⟨S2,P,x,y,.bl z,rs2,Rep.le rs1 le2 _ rx,ry,by unfold cmpD;rw[e];rfl,fun w H3 ⟨d3,S3,le3,rs3,r3,⟨e1,e2⟩,_⟩=>?_⟩
    subst e1 e2
    refine⟨z,QE r3,?_⟩
    cases z with
    | false=>
      rw[if_neg Bool.false_ne_true]
      exact Zw ((le1.trans le2).trans le3) rs3 (.bl _) q2 (.inr rfl)
    | true=>
      rw[if_pos rfl]
      refine Ze (hd σ H3 ρ S3 P _ rs3 (re.le rs ((le1.trans le2).trans le3)) q2) fun w H4 ⟨z4,S4,le4,rs4,r4,q4,_⟩=>?_
      have q4:optB (cmpB o' S4 y z4) fun z'=>Q (.bl z') S4:=q4
      cases e4:cmpB o' S4 y z4 with
      | none=>rw[e4] at q4;exact q4.elim
      | some z'=>
        rw[e4] at q4
        refine⟨S4,P,y,z4,.bl z',rs4,Rep.le rs2 (le3.trans le4) _ ry,r4,by unfold cmpD;rw[e4];rfl,fun w H5 l=>?_⟩
        exact Ye (((le1.trans le2).trans le3).trans le4) (Yu l (fun d S' ⟨e1,e2⟩=>by subst e1 e2;exact q4) fun e=>by cases e)
 refine⟨fun σ H ρ S P Q rs re h=>Zu (pe_chain (VA (cl:=cl) hu o) (VA (cl:=cl) hu o') c_e c_e c_e hm) (core σ H ρ S P Q rs re h),fun σ H ρ S P Q rs re h=>?_,WO rfl⟩
 refine WM (pt_chain (VA (cl:=cl) hu o) (VA (cl:=cl) hu o') c_e c_e c_e hm) ?_
 have h':wE Γ (.chain o o' ma mb md) ρ S (fun d S'=>∃b,d=.bl b∧Q b S'):=by
  have eb:∀(z:Bool)(S:Za),(optB (truD S (.bl z)) fun t=>Q t S)=(∃b,D.bl z=.bl b∧Q b S):=fun z S=>propext ⟨fun q=>⟨z,rfl,q⟩,fun⟨b,e,q⟩=>by cases e;exact q⟩
  unfold wT wE at h
  simp only[eb] at h
  unfold wE
  exact h
 refine Ze (core σ H ρ S P _ rs re h') fun v H1 q=>Ze q fun u H2 q=>?_
 obtain⟨S',P',dx,dy,z,r1,r2,r3,r4,r5⟩:=q
 refine⟨S',P',dx,dy,z,r1,r2,r3,r4,fun w H3 l=>?_⟩
 obtain⟨k,e,q⟩:=r5 w H3 l
 refine⟨k,e,?_⟩
 have fin:∀(w:V)(H4:Hp),lift X.K cl false (fun d S'=>∃b,d=.bl b∧Q b S') H S P w H4→∃k,w=.bl k∧liftT X.K cl Q H S P k H4:=by
  rintro w H4 ⟨d,S4,le,rs4,r,⟨b,e,q⟩,_⟩
  subst e
  exact⟨b,QE r,S4,le,rs4,q⟩
 cases k with
 | false=>exact fin _ _ q
 | true=>
   refine Ze q fun w H4 q=>?_
   obtain⟨S',P',dx,dy,z,r1,r2,r3,r4,r5⟩:=q
   exact⟨S',P',dx,dy,z,r1,r2,r3,r4,fun w H5 l=>fin _ _ (r5 w H5 l)⟩
end
end Sw
namespace Sw
open PySem PySem.Spec PyProof.Rows L2
section
variable {Γ:Gam}{cl:ClsT}{k:Nat}{X:Cx}{c:Cd}
theorem Zof (C:XC c X){x:Str}(h:visC c x=true):Vis X.env.scope x:=by
 unfold visC at h
 rw[← C.sc] at h
 split at h
 · next e=>exact .inl e
 · next e=>exact .inr (.inl e)
 · next e=>exact .inr (.inr e)
 · cases h
theorem ZE (C:XC c X){x:Str}(h:gloC c x=true):Gl X x:=by
 unfold gloC at h
 rw[← C.sc] at h
 split at h
 · next e=>exact e
 · cases h
theorem de_v (C:XC c X){i:Nat}{x:Str}{pos:Pos}(h:(decide (c.N[i]?=some x) && visC c x && !(x == ("__debug__" : Str)) && !(x == ("__classdict__" : Str)))=true):DE Γ cl X (.Name x pos) (.v i):=by
 simp only[Bool.and_eq_true,decide_eq_true_eq,Bool.not_eq_true'] at h
 intro σ H ρ S P Q rs re hw
 refine Zu (pe_var (by rw[C.n];exact h.1.1.1) (Zof C h.1.1.2) h.1.2 h.2) ?_
 unfold wE at hw
 split at hw
 · next d e=>
   obtain⟨v,h1,h2⟩:=re.2 i d e
   exact⟨v,h1,Zw (Le.refl rs) rs h2 hw (.inr rfl)⟩
 · exact hw.elim
theorem de_k {d:D}{q:Const}{j:Nat}{pos:Pos}(h:ZcW d q=true):DE Γ cl X (.Constant q j pos) (.k d):=by
 intro σ H ρ S P Q rs re hw
 unfold wE at hw
 unfold ZcW at h
 split at h
 · exact Zu pe_non (Zw (Le.refl rs) rs .non hw (.inr rfl))
 · next b b'=>have e:b=b':=eq_of_beq h;subst e;exact Zu pe_bl (Zw (Le.refl rs) rs (.bl _) hw (.inr rfl))
 · next b b'=>have e:b=b':=of_decide_eq_true h;subst e;exact Zu pe_int (Zw (Le.refl rs) rs (.int _) hw (.inr rfl))
 · next b b'=>have e:b=b':=of_decide_eq_true h;subst e;exact Zu pe_str (Zw (Le.refl rs) rs (.str _) hw (.inr rfl))
 · cases h
theorem de_g (F:XF Γ cl k X)(C:XC c X){x:Str}{pos:Pos}(hg:gloC c x=true)(hd:(x == ("__debug__" : Str))=false):DE Γ cl X (.Name x pos) (.g x):=by
 intro σ H ρ S P Q rs re hw
 unfold wE at hw
 obtain⟨d,e,hw⟩:=hw
 obtain⟨v,u,h1,h2,h3⟩:=F.gls x d e
 exact Zu (pe_glob (ZE C hg) h2 h3 hd) (Zw (Le.refl rs) rs (Zjz h1) hw (.inr rfl))
theorem Zmo {a b:Expr}{o:Operator}{ma mb:M}{pos:Pos}(ha:DE Γ cl X a ma)(hb:DE Γ cl X b mb):DE Γ cl X (.BinOp a o b pos) (.bin o ma mb):=by
 intro σ H ρ S P Q rs re h
 unfold wE at h
 refine Zu (pe_op (ZnB (cl:=cl) o) c_e c_e) (Zby ha hb rs re h)
theorem Zmv {a:Expr}{ma:M}{pos:Pos}(ha:DE Γ cl X a ma):DE Γ cl X (.UnaryOp .USub a pos) (.neg ma):=by
 intro σ H ρ S P Q rs re h
 unfold wE at h
 refine Zu (pe_un un_neg c_e) ?_
 refine Ze (ha σ H ρ S P _ rs re h) fun v H1 ⟨x,S1,le1,rs1,rx,q,_⟩=>?_
 cases rx with
 | int i=>exact⟨i,rfl,Zw le1 rs1 (.int _) q (.inr rfl)⟩
 | _=>exact q.elim
theorem Zi1 {K:PySem.W.Frag}{S:Za}{P:Addr→Prop}{H:Hp}{x:V}{d:D}(r:Rep K H S P x d):decide (x=.non)=isNon d:=by
 cases r <;> rfl
theorem eb (z:Bool)(Q:Bool→Za→Prop)(S:Za):(optB (truD S (.bl z)) fun t=>Q t S)=(∃b,D.bl z=.bl b∧Q b S):=propext ⟨fun q=>⟨z,rfl,q⟩,fun⟨b,e,q⟩=>by cases e;exact q⟩
theorem fin_bl {Q:Bool→Za→Prop}{K:PySem.W.Frag}{H H4:Hp}{S:Za}{P:Addr→Prop}(w:V)(f:Bool):lift K cl f (fun d S'=>∃b,d=.bl b∧Q b S') H S P w H4→∃k,w=.bl k∧liftT K cl Q H S P k H4:=by
 rintro⟨d,S4,le,rs4,r,⟨b,e,q⟩,_⟩
 subst e
 exact⟨b,QE r,S4,le,rs4,q⟩
theorem Zkr {a:Expr}{no:Bool}{j:Nat}{ma:M}{pos pos':Pos}(ha:DE Γ cl X a ma):All3 Γ cl X (.Compare a [if no=true then .IsNot else .Is] [.Constant .none j pos'] pos) (.isn no ma):=by
 have nonE:∀(σ:L2.St)(H:Hp)(ρ:DEnv)(S:Za)(P:Addr→Prop)(Q:Qd),RS X.K cl H S P→REnv X.K H S P σ ρ→wE Γ (.isn no ma) ρ S Q→cE X a σ H fun x H1=>lift X.K cl false Q H S P (.bl (no != decide (x=.non))) H1:=by
  intro σ H ρ S P Q rs re h
  unfold wE at h
  refine Ze (ha σ H ρ S P _ rs re h) fun v H1 ⟨x,S1,le1,rs1,rx,q,_⟩=>?_
  rw[Zi1 rx]
  exact Zw le1 rs1 (.bl _) q (.inr rfl)
 have conv:∀(ρ:DEnv)(S:Za)(Q:Bool→Za→Prop),wT Γ (.isn no ma) ρ S Q→wE Γ (.isn no ma) ρ S (fun d S'=>∃b,d=.bl b∧Q b S'):=by
  intro ρ S Q h
  unfold wT wE at h
  simp only[eb] at h
  unfold wE
  exact h
 cases no with
 | true=>
   refine⟨fun σ H ρ S P Q rs re h=>?_,fun σ H ρ S P Q rs re h=>?_,WO rfl⟩
   · refine Zu (pe_cmpR op_notN c_e pe_non rfl) ?_
     refine Ze (nonE σ H ρ S P Q rs re h) fun v H1 l=>⟨rfl,?_⟩
     show lift X.K cl false _ _ _ _ _ _
     simpa using l
   · refine WM (pt_cmpR op_notN c_e pe_non rfl) ?_
     refine Ze (nonE σ H ρ S P _ rs re (conv ρ S Q h)) fun v H1 l=>⟨rfl,?_⟩
     have:=fin_bl _ _ l
     simpa using this
 | false=>
   refine⟨fun σ H ρ S P Q rs re h=>?_,fun σ H ρ S P Q rs re h=>?_,WO rfl⟩
   · refine Zu (pe_cmpR op_isN c_e pe_non rfl) ?_
     refine Ze (nonE σ H ρ S P Q rs re h) fun v H1 l=>⟨rfl,?_⟩
     show lift X.K cl false _ _ _ _ _ _
     simpa using l
   · refine WM (pt_cmpR op_isN c_e pe_non rfl) ?_
     refine Ze (nonE σ H ρ S P _ rs re (conv ρ S Q h)) fun v H1 l=>⟨rfl,?_⟩
     have:=fin_bl _ _ l
     simpa using this
theorem Zkq {a:Expr}{no b:Bool}{j:Nat}{ma:M}{pos pos':Pos}(ha:DE Γ cl X a ma):All3 Γ cl X (.Compare a [if no=true then .IsNot else .Is] [.Constant (.bool b) j pos'] pos) (.isb no b ma):=by
 have blE:∀(σ:L2.St)(H:Hp)(ρ:DEnv)(S:Za)(P:Addr→Prop)(Q:Qd),RS X.K cl H S P→REnv X.K H S P σ ρ→wE Γ (.isb no b ma) ρ S Q→cE X a σ H fun x H1=>∃b',x=.bl b'∧lift X.K cl false Q H S P (.bl (no != (b' == b))) H1:=by
  intro σ H ρ S P Q rs re h
  unfold wE at h
  refine Ze (ha σ H ρ S P _ rs re h) fun v H1 ⟨x,S1,le1,rs1,rx,q,_⟩=>?_
  cases rx with
  | bl b'=>exact⟨b',rfl,Zw le1 rs1 (.bl _) q (.inr rfl)⟩
  | _=>exact q.elim
 have conv:∀(ρ:DEnv)(S:Za)(Q:Bool→Za→Prop),wT Γ (.isb no b ma) ρ S Q→wE Γ (.isb no b ma) ρ S (fun d S'=>∃b,d=.bl b∧Q b S'):=by
  intro ρ S Q h
  unfold wT wE at h
  simp only[eb] at h
  unfold wE
  exact h
 have eq1:∀b',(decide (b'=b))=(b' == b):=by intro b';cases b' <;> cases b <;> rfl
 cases no with
 | true=>
   refine⟨fun σ H ρ S P Q rs re h=>?_,fun σ H ρ S P Q rs re h=>?_,WO rfl⟩
   · refine Zu (pe_cmpR op_notBl c_e pe_bl rfl) ?_
     refine Ze (blE σ H ρ S P Q rs re h) fun v H1 ⟨b',e,l⟩=>⟨b',b,e,rfl,?_⟩
     rw[eq1];show lift X.K cl false _ _ _ _ _ _;simpa using l
   · refine WM (pt_cmpR op_notBl c_e pe_bl rfl) ?_
     refine Ze (blE σ H ρ S P _ rs re (conv ρ S Q h)) fun v H1 ⟨b',e,l⟩=>⟨b',b,e,rfl,?_⟩
     have:=fin_bl _ _ l
     rw[eq1];simpa using this
 | false=>
   refine⟨fun σ H ρ S P Q rs re h=>?_,fun σ H ρ S P Q rs re h=>?_,WO rfl⟩
   · refine Zu (pe_cmpR op_isBl c_e pe_bl rfl) ?_
     refine Ze (blE σ H ρ S P Q rs re h) fun v H1 ⟨b',e,l⟩=>⟨b',b,e,rfl,?_⟩
     rw[eq1];show lift X.K cl false _ _ _ _ _ _;simpa using l
   · refine WM (pt_cmpR op_isBl c_e pe_bl rfl) ?_
     refine Ze (blE σ H ρ S P _ rs re (conv ρ S Q h)) fun v H1 ⟨b',e,l⟩=>⟨b',b,e,rfl,?_⟩
     have:=fin_bl _ _ l
     rw[eq1];simpa using this
theorem ZkG:DAs Γ cl X [] .nil:=by
 intro σ H ρ S P Q rs re h
 unfold wEs at h
 exact Zcw pa_nil ⟨[],S,Le.refl rs,rs,.nil,h⟩
theorem ZiN {e:Expr}{es:List Expr}{a:M}{r:Ms}(hp:Zi e=true)(ha:DE Γ cl X e a)(hr:DAs Γ cl X es r):DAs Γ cl X (e :: es) (.cons a r):=by
 intro σ H ρ S P Q rs re h
 unfold wEs at h
 refine Zcw (pa_cons c_e c_a (Zg hp)) ?_
 refine Ze (ha σ H ρ S P _ rs re h) fun v H1 ⟨x,S1,le1,rs1,rx,q,_⟩=>?_
 refine Yc (hr σ H1 ρ S1 P _ rs1 (re.le rs le1) q) fun vs H2 ⟨ds,S2,le2,rs2,rr,q2⟩=>?_
 exact⟨x :: ds,S2,le1.trans le2,rs2,.cons (Rep.le rs1 le2 _ rx) rr,q2⟩
theorem Zmy {es:List Expr}{as:Ms}{j:Nat}{pos:Pos}(h:DAs Γ cl X es as):DE Γ cl X (.Tuple es j pos) (.tup as):=by
 intro σ H ρ S P Q rs re hw
 unfold wE at hw
 refine Zu (Zlw c_a) ?_
 refine Yc (h σ H ρ S P _ rs re hw) fun vs H1 ⟨ds,S1,le1,rs1,rr,q⟩=>⟨by rw[rr.length];exact q.1,fun p o hp hn=>Zad le1 rs1 hp hn rr q.2⟩
theorem Zmu {es:List Expr}{as:Ms}{pos:Pos}(h:DAs Γ cl X es as):DE Γ cl X (.List es pos) (.lst as):=by
 intro σ H ρ S P Q rs re hw
 unfold wE at hw
 refine Zu (pe_lst c_a) ?_
 refine Yc (h σ H ρ S P _ rs re hw) fun vs H1 ⟨ds,S1,le1,rs1,rr,q⟩=>⟨by rw[rr.length];exact q.1,fun p hp=>Wp le1 rs1 hp rr q.2⟩
theorem Zcb (t:Ty):bootBuiltins (Str.ofString t.nm)=some (.type t.nm):=by cases t <;> decide +kernel
theorem ZfA (t:Ty):Str.ofString t.nm∈Z6:=by cases t <;> decide +kernel
end
end Sw
namespace Sw
open PySem PySem.Spec PyProof.Rows L2
section
variable {Γ:Gam}{cl:ClsT}{k:Nat}{X:Cx}{c:Cd}
theorem Zmr (F:XF Γ cl k X)(C:XC c X){t:Ty}{x:Expr}{p p' pos:Pos}{a:M}(h1:gloC c "isinstance" = true) (h2:gloC c (Str.ofString t.nm)=true) (hp:Zi x=true) (ha:DE Γ cl X x a) :
  DE Γ cl X (.Call (.Name "isinstance" p) [x,.Name (Str.ofString t.nm) p'] [] pos) (.isa t a):=by
 intro σ H ρ S P Q rs re hw
 unfold wE at hw
 have hn:Str.ofString t.nm≠("__name__" : Str):=by cases t <;> decide +kernel
 have hd:(Str.ofString t.nm == ("__debug__" : Str))=false:=by cases t <;> decide +kernel
 have pt:PE X (.Name (Str.ofString t.nm) p') (tC (.ty t.nm)):=pe_bltn (ZE C h2) (F.blt _ (ZfA t)) (Zcb t) rfl hn hd
 refine Zu (pe_callB call_isi (ZE C h1) (F.blt _ (by decide +kernel)) PyProof.Rows.boot_isinstance (pa_cons c_e (pa_cons pt pa_nil rfl) (Zg hp)) (by decide +kernel) (by decide +kernel) (Zg hp) rfl) ?_
 refine Ze (ha σ H ρ S P _ rs re hw) fun v H1 ⟨d,S1,le1,rs1,r,q,_⟩=>?_
 have q:optB (isaD t S1 d) fun b=>Q (.bl b) S1:=q
 cases e:isaD t S1 d with
 | none=>rw[e] at q;exact q.elim
 | some b=>
   rw[e] at q
   obtain⟨n,h1,h2⟩:=Zk6 t rs1 r e
   exact⟨v,.ty t.nm,_,_,b,rfl,.ty _,h1,h2,Zw le1 rs1 (.bl _) q (.inr rfl)⟩
theorem ZjQ {f:Bi}{es:List Expr}{as:Ms}(h:DAs Γ cl X es as){σ:L2.St}{H:Hp}{ρ:DEnv}{S:Za}{P:Addr→Prop}{Q:Qd}(rs:RS X.K cl H S P)(re:REnv X.K H S P σ ρ)(hw:wE Γ (.bi f as) ρ S Q) :
  tCB (rBi X cl f) (cA X es) σ H (lift X.K cl true Q H S P):=by
 unfold wE at hw
 refine Yc (h σ H ρ S P _ rs re hw) fun vs H1 ⟨ds,S1,le1,rs1,rr,q⟩=>?_
 have q:optD (biD f S1 ds) fun z=>Q z S1:=q
 cases e:biD f S1 ds with
 | none=>rw[e] at q;exact q.elim
 | some z=>
   rw[e] at q
   exact⟨S1,P,ds,z,rs1,rr,e,fun w H3 l=>Ye le1 (Yu l (fun d S' ⟨e1,e2⟩=>by subst e1 e2;exact q) fun _=>rfl)⟩
theorem Zmm {f:Bi}{x:Expr}{es:List Expr}{as:Ms}{g:Str}{id:String}{p pos:Pos}(C:XC c X)(hg:gloC c g=true)(hm:X.mg g=none)(hv:bootBuiltins g=some (.builtin id))(hc:CallR X (.builtin id) (rBi X cl f))(hn:g ≠ "__name__") (hd:(g == ("__debug__" : Str))=false)
  (hk:chks c as (x :: es)=true) (h:DAs Γ cl X (x :: es) as):DE Γ cl X (.Call (.Name g p) (x :: es) [] pos) (.bi f as):=by
 intro σ H ρ S P Q rs re hw
 have hpx:Zi x=true∧∃r,chks c r es=true:=by
  cases as with
  | nil=>unfold chks at hk;cases hk
  | cons a r=>unfold chks at hk;simp only[Bool.and_eq_true] at hk;exact⟨hk.1.1,r,hk.2⟩
 obtain⟨hp,r,hr⟩:=hpx
 exact Zu (pe_callB hc (ZE C hg) hm hv c_a hn hd (Zg hp) (ZV c r es _ _ hr)) (ZjQ h rs re hw)
theorem Zmn {f:Bi}{x:Expr}{es:List Expr}{as:Ms}{g:Str}{T:String}{p pos:Pos}(C:XC c X)(hg:gloC c g=true)(hm:X.mg g=none)(hv:bootBuiltins g=some (.type T))(hc:CallR X (.type T) (rBi X cl f))(hn:g ≠ "__name__") (hd:(g == ("__debug__" : Str))=false)
  (hk:chks c as (x :: es)=true) (h:DAs Γ cl X (x :: es) as):DE Γ cl X (.Call (.Name g p) (x :: es) [] pos) (.bi f as):=by
 intro σ H ρ S P Q rs re hw
 have hpx:Zi x=true∧∃r,chks c r es=true:=by
  cases as with
  | nil=>unfold chks at hk;cases hk
  | cons a r=>unfold chks at hk;simp only[Bool.and_eq_true] at hk;exact⟨hk.1.1,r,hk.2⟩
 obtain⟨hp,r,hr⟩:=hpx
 exact Zu (pe_callTy hc (ZE C hg) hm hv c_a hn hd (Zg hp) (ZV c r es _ _ hr)) (ZjQ h rs re hw)
theorem ZaX {K:PySem.W.Frag}{H:Hp}{S:Za}{P:Addr→Prop}(a b:Int):Zb K H S P (rgV a b) (ZN a b):=by
 unfold rgV ZN
 have:∀l:List Nat,Zb K H S P (l.map fun i=>V.int (a+(i:Nat))) (l.map fun i=>D.int (a+(i:Nat))):=fun l=>by
  induction l with
  | nil=>exact .nil
  | cons i l ih=>exact .cons (.int _) ih
 exact this _
theorem Zfr {a b:Int}(h:rgOk a b=true):RgOk a b:=by
 unfold rgOk at h
 simp only[Bool.and_eq_true,decide_eq_true_eq] at h
 exact⟨h.1.1.1.1,h.1.1.1.2,h.1.1.2,h.1.2,h.2⟩
theorem Zms (F:XF Γ cl k X)(C:XC c X){x:Expr}{p p' pos pos':Pos}{a:M}(h1:gloC c "list" = true) (h2:gloC c "range" = true) (hp:Zi x=true) (ha:DE Γ cl X x a) :
  DE Γ cl X (.Call (.Name "list" p) [.Call (.Name "range" p') [x] [] pos'] [] pos) (.bi .lrange1 (.cons a .nil)):=by
 intro σ H ρ S P Q rs re hw
 unfold wE wEs wEs at hw
 refine Zu (pe_listRg F.calm (ZE C h1) (F.blt _ (by decide +kernel)) (prg_1 (ZE C h2) (F.blt _ (by decide +kernel)) c_e (Zg hp)) rfl) ?_
 refine Ze (ha σ H ρ S P _ rs re hw) fun v H1 ⟨d,S1,le1,rs1,r,q,_⟩=>?_
 have q:optD (W3 [d]) fun z=>Q z S1:=q
 unfold W3 at q
 cases r with
 | int b=>
   dsimp only at q
   split at q
   · next hz=>exact⟨b,rfl,Zfr hz,fun p hp=>Wp le1 rs1 hp (ZaX 0 b) q⟩
   · exact q.elim
 | _=>exact q.elim
theorem Zmt (F:XF Γ cl k X)(C:XC c X){x y:Expr}{p p' pos pos':Pos}{a b:M}(h1:gloC c "list" = true) (h2:gloC c "range" = true) (hp:Zi x=true) (hp':Zi y=true) (ha:DE Γ cl X x a) (hb:DE Γ cl X y b) :
  DE Γ cl X (.Call (.Name "list" p) [.Call (.Name "range" p') [x,y] [] pos'] [] pos) (.bi .lrange2 (.cons a (.cons b .nil))):=by
 intro σ H ρ S P Q rs re hw
 unfold wE wEs wEs wEs at hw
 refine Zu (pe_listRg F.calm (ZE C h1) (F.blt _ (by decide +kernel)) (prg_2 (ZE C h2) (F.blt _ (by decide +kernel)) c_e c_e (Zg hp) (Zg hp') (by rw[Zg hp'];rfl)) rfl) ?_
 refine Ze (ha σ H ρ S P _ rs re hw) fun v H1 ⟨d,S1,le1,rs1,r,q,_⟩=>?_
 refine Ze (hb σ H1 ρ S1 P _ rs1 (re.le rs le1) q) fun v' H2 ⟨d',S2,le2,rs2,r',q,_⟩=>?_
 have q:optD (V7 [d,d']) fun z=>Q z S2:=q
 unfold V7 at q
 cases r with
 | int i=>
   cases r' with
   | int j=>
     dsimp only at q
     split at q
     · next hz=>exact⟨i,j,rfl,rfl,Zfr hz,fun p hp=>Wp (le1.trans le2) rs2 hp (ZaX i j) q⟩
     · exact q.elim
   | _=>exact q.elim
 | _=>exact q.elim
theorem ZoP {a i:Expr}{ma mi:M}{pos:Pos}(hu:X.A.units+100<cLine)(hp:Zi i=true)(ha:DE Γ cl X a ma)(hi:DE Γ cl X i mi):DE Γ cl X (.Subscript a i pos) (.ix ma mi):=by
 intro σ H ρ S P Q rs re hw
 unfold wE at hw
 have ir:IxR X (fun x y H Q=>∃S P dx dy z,RS X.K cl H S P∧Rep X.K H S P x dx∧Rep X.K H S P y dy∧ixOf S dx dy=some z∧∀v H',lift X.K cl false (Just z S) H S P v H'→Q v H'):=by
  intro value slice pins s σ H x y v u Q I rx ry ⟨S,P,dx,dy,z,rs,r1,r2,h,q⟩ hs
  exact thn (Znb rs r1 r2 h hu I rx ry hs) fun w s' ⟨v,H',I',r,l⟩=>⟨v,H',I',r,q v H' l⟩
 refine Zu (pe_ix ir c_e c_e (Zjs hp)) ?_
 refine Ze (ha σ H ρ S P _ rs re hw) fun v H1 ⟨x,S1,le1,rs1,r1,q1,_⟩=>?_
 refine Ze (hi σ H1 ρ S1 P _ rs1 (re.le rs le1) q1) fun u H2 ⟨y,S2,le2,rs2,ry,q2,_⟩=>?_
 have q2:optD (ixOf S2 x y) fun z=>Q z S2:=q2
 cases e:ixOf S2 x y with
 | none=>rw[e] at q2;exact q2.elim
 | some z=>
   rw[e] at q2
   refine⟨S2,P,x,y,z,rs2,Rep.le rs1 le2 _ r1,ry,e,fun w H3 l=>?_⟩
   exact Ye (le1.trans le2) (Yu l (fun d S' ⟨e1,e2⟩=>by subst e1 e2;exact q2) fun e=>by cases e)
theorem ZaZ {Q:Qd}{H H1:Hp}{S S1:Za}{P:Addr→Prop}{x:D}{v:V}{lo hi:Option Int}(le1:Le H S P H1 S1)(rs1:RS X.K cl H1 S1 P)(r1:Rep X.K H1 S1 P v x)(q:optD (slOf S1 x lo hi) fun z=>Q z S1):rSl X cl v lo hi H1 (lift X.K cl true Q H S P):=by
 cases e:slOf S1 x lo hi with
 | none=>rw[e] at q;exact q.elim
 | some z=>
   rw[e] at q
   exact⟨S1,P,x,z,rs1,r1,e,fun w H3 l=>Ye le1 (Yu l (fun d S' ⟨e1,e2⟩=>by subst e1 e2;exact q) fun _=>rfl)⟩
theorem ZkP {a:Expr}{ma:M}{pos p:Pos}(ha:DE Γ cl X a ma):DE Γ cl X (.Subscript a (.Slice none none none p) pos) (.sl false false ma .nil):=by
 intro σ H ρ S P Q rs re hw
 unfold wE wIs at hw
 refine Zu (pe_slice (Za0 (cl:=cl)) c_e po_none po_none) ?_
 refine Ze (ha σ H ρ S P _ rs re hw) fun v H1 ⟨x,S1,le1,rs1,r1,q,_⟩=>ZaZ le1 rs1 r1 q
theorem ZaJ {e:Expr}{m:M}(h:DE Γ cl X e m){σ:L2.St}{H:Hp}{ρ:DEnv}{S:Za}{P:Addr→Prop}{K:Int→Za→Prop}{R:Int→Hp→Prop}(rs:RS X.K cl H S P)(re:REnv X.K H S P σ ρ)
  (hw:wE Γ m ρ S fun x S1=>match x with | .int i=>K i S1 | _=>False) (hR:∀i H1 S1,Le H S P H1 S1→RS X.K cl H1 S1 P→K i S1→R i H1):cE X e σ H fun x H1=>∃i,x=.int i∧R i H1:=by
 refine Ze (h σ H ρ S P _ rs re hw) fun v H1 ⟨x,S1,le1,rs1,r,q,_⟩=>?_
 cases r with
 | int i=>exact⟨i,rfl,hR i H1 S1 le1 rs1 q⟩
 | _=>exact q.elim
theorem ZkR {a l:Expr}{ma ml:M}{pos p:Pos}(ha:DE Γ cl X a ma)(hl:DE Γ cl X l ml):DE Γ cl X (.Subscript a (.Slice (some l) none none p) pos) (.sl true false ma (.cons ml .nil)):=by
 intro σ H ρ S P Q rs re hw
 unfold wE wIs wIs at hw
 refine Zu (pe_slice (Za0 (cl:=cl)) c_e (po_some c_e) po_none) ?_
 refine Ze (ha σ H ρ S P _ rs re hw) fun v H1 ⟨x,S1,le1,rs1,r1,q,_⟩=>?_
 exact ZaJ hl rs1 (re.le rs le1) q fun i H2 S2 le2 rs2 q=>ZaZ (le1.trans le2) rs2 (Rep.le rs1 le2 _ r1) q
theorem ZkQ {a l:Expr}{ma ml:M}{pos p:Pos}(ha:DE Γ cl X a ma)(hl:DE Γ cl X l ml):DE Γ cl X (.Subscript a (.Slice none (some l) none p) pos) (.sl false true ma (.cons ml .nil)):=by
 intro σ H ρ S P Q rs re hw
 unfold wE wIs wIs at hw
 refine Zu (pe_slice (Za0 (cl:=cl)) c_e po_none (po_some c_e)) ?_
 refine Ze (ha σ H ρ S P _ rs re hw) fun v H1 ⟨x,S1,le1,rs1,r1,q,_⟩=>?_
 exact ZaJ hl rs1 (re.le rs le1) q fun i H2 S2 le2 rs2 q=>ZaZ (le1.trans le2) rs2 (Rep.le rs1 le2 _ r1) q
theorem ZkS {a l h:Expr}{ma ml mh:M}{pos p:Pos}(ha:DE Γ cl X a ma)(hl:DE Γ cl X l ml)(hh:DE Γ cl X h mh):DE Γ cl X (.Subscript a (.Slice (some l) (some h) none p) pos) (.sl true true ma (.cons ml (.cons mh .nil))):=by
 intro σ H ρ S P Q rs re hw
 unfold wE wIs wIs wIs at hw
 refine Zu (pe_slice (Za0 (cl:=cl)) c_e (po_some c_e) (po_some c_e)) ?_
 refine Ze (ha σ H ρ S P _ rs re hw) fun v H1 ⟨x,S1,le1,rs1,r1,q,_⟩=>?_
 exact ZaJ hl rs1 (re.le rs le1) q fun i H2 S2 le2 rs2 q=>ZaJ hh rs2 (re.le rs (le1.trans le2)) q fun j H3 S3 le3 rs3 q=>ZaZ ((le1.trans le2).trans le3) rs3 (Rep.le rs1 (le2.trans le3) _ r1) q
theorem ZkH (F:XF Γ cl k X)(C:XC c X){f:Str}{es:List Expr}{as:Ms}{p pos:Pos}(hg:gloC c f=true)(hd:(f == ("__debug__" : Str))=false) (hk:chks c as es=true) (h:DAs Γ cl X es as):DE Γ cl X (.Call (.Name f p) es [] pos) (.call f as):=by
 intro σ H ρ S P Q rs re hw
 unfold wE at hw
 obtain⟨sp,ef,hw⟩:=hw
 obtain⟨mono,a,fd,ps,h1,h2,h3,h4⟩:=F.fns f sp ef
 have go:∀vs H1,ZcB X.K cl (fun ds S1=>sp ds S1 Q) H S P vs H1→YI X.K cl sp vs H1 (lift X.K cl false Q H S P) E0:=by
  rintro vs H1 ⟨ds,S1,le1,rs1,rr,q⟩
  exact⟨ds,S1,P,rs1,rr,mono _ _ _ _ (fun d S' q v H' le rs' r=>Zw (le1.trans le) rs' r q (.inr rfl)) q⟩
 have A:=h σ H ρ S P _ rs re hw
 cases es with
 | nil=>
   refine Zu (ZhP h4 F.room F.gd (ZE C hg) h1 h2 h3 hd) ?_
   cases as with
   | nil=>
     unfold wEs at hw
     exact go [] H ⟨[],S,Le.refl rs,rs,.nil,hw⟩
   | cons a r=>unfold chks at hk;cases hk
 | cons e es=>
   have hpx:Zi e=true∧∃r,chks c r es=true:=by
    cases as with
    | nil=>unfold chks at hk;cases hk
    | cons a r=>unfold chks at hk;simp only[Bool.and_eq_true] at hk;exact⟨hk.1.1,r,hk.2⟩
   obtain⟨hp,r,hr⟩:=hpx
   refine Zu (pe_callG h4 F.room F.gd (ZE C hg) h1 h2 h3 c_a hd (Zg hp) (ZV c r es _ _ hr)) ?_
   refine Yc A fun vs H1 l=>?_
   show YI X.K cl sp (vs++[]) H1 (lift X.K cl false Q H S P) E0
   rw[List.append_nil]
   exact go vs H1 l
theorem Zmw {e:Expr}{a:M}(hf:Vs a=true)(h:DE Γ cl X e a):DE Γ cl X e (.own a):=by
 intro σ H ρ S P Q rs re hw
 unfold wE at hw
 refine Ze (h σ H ρ S P _ rs re hw) fun v H1 ⟨d,S1,le1,rs1,r,q,o⟩=>?_
 cases d with
 | lst ds=>
   obtain⟨p,e1,e2,e3,e4⟩:=o hf _ rfl
   subst e1
   exact⟨.obj p,_,e3,e4,.obj p,q p e2,fun e=>by cases e⟩
 | dic ks ds=>
   obtain⟨p,e1,e2,e3,e4⟩:=o hf _ rfl
   subst e1
   exact⟨.obj p,_,e3,e4,.obj p,q p e2,fun e=>by cases e⟩
 | _=>exact q.elim
theorem Zmq {e:Expr}{a:M}(h:DE Γ cl X e a):DE Γ cl X e (.frz a):=by
 intro σ H ρ S P Q rs re hw
 unfold wE at hw
 refine Ze (h σ H ρ S P _ rs re hw) fun v H1 ⟨d,S1,le1,rs1,r,q,_⟩=>?_
 cases r with
 | obj p=>
   have q:(match S1 p with | some (MO.lst ds)=>Q (D.lst ds) (sdel S1 p) | some (MO.dic kvs)=>Q (D.dic (kvs.map (·.1)) (kvs.map (·.2))) (sdel S1 p) | _=>False):=q
   have sub:∀a o,sdel S1 p a=some o→S1 a=some o:=fun a o=>Uh
   split at q
   · next ds e=>exact⟨.lst ds,sdel S1 p,le1.trans (Le.drop rs1 sub),rs1.drop sub,rs1.freeze e,q,fun e=>by cases e⟩
   · next kvs e=>exact⟨.dic (kvs.map (·.1)) (kvs.map (·.2)),sdel S1 p,le1.trans (Le.drop rs1 sub),rs1.drop sub,rs1.freezeD e,q,fun e=>by cases e⟩
   · exact q.elim
 | _=>exact q.elim
theorem QQ:∀(kvs acc:List (Key×V)),((acc++kvs).map (·.1)).Nodup→mergeK acc kvs=acc++kvs
 | [],acc,_=>by rw[List.append_nil];rfl
 | kv :: r,acc,h=>by
   have hn:(acc.any fun p=>decide (p.1=kv.1))=false:=by
    rw[Bool.eq_false_iff]
    intro z
    rw[List.any_eq_true] at z
    obtain⟨p,hp,e⟩:=z
    have e:=of_decide_eq_true e
    rw[List.map_append,List.map_cons,List.nodup_append] at h
    exact h.2.2 p.1 (List.mem_map_of_mem hp) kv.1 (by simp) e
   have e:putK acc kv.1 kv.2=acc++[kv]:=by
    unfold putK
    rw[hn]
    rfl
   show mergeK (putK acc kv.1 kv.2) r=acc++kv :: r
   rw[e,QQ r (acc++[kv]) (by rw[List.append_assoc];exact h),List.append_assoc]
   rfl
def ZcJ (X:Cx):List Str→List Expr→List (TE×TE)
 | k :: ks,e :: es=>(tC (.str k),cE X e) :: ZcJ X ks es
 | _,_=>[]
theorem ZnM:∀(ks:List Str)(keys:List (Option Expr))(es:List Expr)(pos:Pos),Wc ks keys=true→ks.length=es.length→PPs X pos keys es (ZcJ X ks es)
 | ks,keys,es,pos,h,hl=>by
   induction ks generalizing keys es with
   | nil=>
     cases keys with
     | nil=>
       cases es with
       | nil=>exact pps_nil
       | cons _ _=>simp at hl
     | cons _ _=>unfold Wc at h;cases h
   | cons k ks ih=>
     cases keys with
     | nil=>unfold Wc at h;cases h
     | cons e0 keys=>
       cases es with
       | nil=>simp at hl
       | cons e es=>
         unfold Wc at h
         rw[Bool.and_eq_true] at h
         obtain⟨h1,h2⟩:=h
         unfold strC at h1
         split at h1
         · have h1:=of_decide_eq_true h1
           subst h1
           exact pps_cons pe_str c_e (ih keys es h2 (by simpa using hl))
         · cases h1
end
end Sw
namespace Sw
open PySem PySem.Spec PyProof.Rows L2
section
variable {Γ:Gam}{cl:ClsT}{k:Nat}{X:Cx}{c:Cd}
def rMe (X:Cx)(cl:ClsT)(m:Me):V→List V→Hp→VK→Prop:=fun x xs H Q=>∃S P dx ds z,RS X.K cl H S P∧Rep X.K H S P x dx∧Zb X.K H S P xs ds∧meD m S dx ds=some z∧∀v H',lift X.K cl true (Just z S) H S P v H'→Q v H'
theorem Zb9 {K:PySem.W.Frag}{H:Hp}{S:Za}{P:Addr→Prop}:∀ {ds:List D} {xs:List V} {ys:List Str},Zb K H S P xs ds→Yi ds=some ys→xs=ys.map V.str
 | [],_,_,.nil,h=>by cases h;rfl
 | .str x :: r,_,ys,.cons a b,h=>by
   unfold Yi at h
   cases e:Yi r with
   | none=>rw[e] at h;cases h
   | some zs=>
     rw[e] at h
     cases h
     cases a
     rw[Zb9 b e]
     rfl
 | .non :: _,_,_,.cons _ _,h=>by cases h
 | .bl _ :: _,_,_,.cons _ _,h=>by cases h
 | .int _ :: _,_,_,.cons _ _,h=>by cases h
 | .tup _ :: _,_,_,.cons _ _,h=>by cases h
 | .lst _ :: _,_,_,.cons _ _,h=>by cases h
 | .dic _ _ :: _,_,_,.cons _ _,h=>by cases h
 | .scr _ :: _,_,_,.cons _ _,h=>by cases h
 | .obj _ :: _,_,_,.cons _ _,h=>by cases h
theorem Zlf:MtR X "str.join" (rMe X cl .join):=by
 intro pins s σ H x xs v us Q I rx rv ⟨S,P,dx,ds,z,rs,r1,rr,h,hQ⟩
 change joinM S dx ds=some z at h
 unfold joinM at h
 split at h <;> try cases h
 next d=>
 split at h <;> try cases h
 next a ds' hs=>
 split at h <;> try cases h
 next ys hy=>
 split at h <;> try cases h
 next hz=>
 obtain⟨w,rfl,rw'⟩:=rep1 rr
 obtain⟨p,vs,rfl,hp,q⟩:=Yl rs rw' hs
 have e:=Zb9 q hy
 subst e
 cases r1
 refine mt_join pins s σ H _ _ v us Q I rx rv ⟨a,p,ys,rfl,rfl,?_,hz,hQ _ _ (Zt rs (.str _) rfl)⟩
 rcases hp with hp | hp
 · exact .inl (SqL.of hp)
 · exact .inr hp.t
theorem Zhz:MtR X "str.index" (rMe X cl .sindex):=by
 intro pins s σ H x xs v us Q I rx rv ⟨S,P,dx,ds,z,rs,r1,rr,h,hQ⟩
 change WW dx ds=some z at h
 unfold WW at h
 split at h <;> try cases h
 next b=>
 split at h <;> try cases h
 next a=>
 split at h <;> try cases h
 next i r hi=>
 obtain⟨w,rfl,rw'⟩:=rep1 rr
 cases rw'
 cases r1
 exact mt_sindex pins s σ H _ _ v us Q I rx rv ⟨a,b,i,r,rfl,rfl,hi,hQ _ _ (Zt rs (.int _) rfl)⟩
theorem Zfw {K:PySem.W.Frag}{H:Hp}{S:Za}{P:Addr→Prop}:∀ys:List Str,Zb K H S P (ys.map V.str) (ys.map D.str)
 | []=>.nil
 | i :: r=>.cons (.str i) (Zfw r)
theorem Zi8:MtR X "str.split" (rMe X cl .split):=by
 intro pins s σ H x xs v us Q I rx rv ⟨S,P,dx,ds,z,rs,r1,rr,h,hQ⟩
 change splitM dx ds=some z at h
 unfold splitM at h
 split at h <;> try cases h
 next b=>
 split at h <;> try cases h
 next a=>
 split at h <;> try cases h
 next hz=>
 obtain⟨w,rfl,rw'⟩:=rep1 rr
 cases rw'
 cases r1
 exact mt_split pins s σ H _ _ v us Q I rx rv ⟨a,b,rfl,rfl,hz.1,hz.2,fun p hp=>hQ _ _ (YX rs hp (Zfw _))⟩
theorem Zlg:MtR X "str.partition" (rMe X cl .partition):=by
 intro pins s σ H x xs v us Q I rx rv ⟨S,P,dx,ds,z,rs,r1,rr,h,hQ⟩
 change ZcD dx ds=some z at h
 unfold ZcD at h
 split at h <;> try cases h
 next b=>
 split at h <;> try cases h
 next a=>
 split at h <;> try cases h
 next hz=>
 obtain⟨w,rfl,rw'⟩:=rep1 rr
 cases rw'
 cases r1
 exact Zjc pins s σ H _ _ v us Q I rx rv ⟨a,b,rfl,rfl,hz.1,hz.2,fun p o hp hn=>hQ _ _ (V3 rs hp hn (.cons (.str _) (.cons (.str _) (.cons (.str _) .nil))))⟩
def meId:Me→String
 | .join=> "str.join" | .sindex=> "str.index" | .split=> "str.split" | .partition=> "str.partition"
theorem Znq (m:Me):MtR X (meId m) (rMe X cl m):=by
 cases m with
 | join=>exact Zlf
 | sindex=>exact Zhz
 | split=>exact Zi8
 | partition=>exact Zlg
theorem Zlh (m:Me):Slot "str" (Zdt m) (meId m):=by
 cases m with
 | join=>exact F.slot_str_join
 | sindex=>exact F.slot_str_index
 | split=>exact F.slot_str_split
 | partition=>exact F.slot_str_partition
theorem Zli (m:Me):typeOf (.builtin (meId m))=pure (.type "method_descriptor"):=by
 cases m with
 | join=>exact F.type_str_join
 | sindex=>exact F.type_str_index
 | split=>exact F.type_str_split
 | partition=>exact F.type_str_partition
theorem YC {o:Expr}{n:Str}{env:Env}(h:Yo o=true):attributeBase o n env (eval o env)=eval o env:=by
 cases o with
 | Name=>rfl
 | Subscript=>rfl
 | Constant=>rfl
 | Attribute=>rfl
 | Call f es kw p=>
   cases es with
   | cons x r=>cases f <;> rfl
   | nil=>
     cases f with
     | Name id q=>
       cases kw with
       | nil=>
         have h:(!(id == ("super" : Str)))=true:=h
         exact L2.abase_call (by rw[bne];exact h)
       | cons _ _=>cases h
     | Attribute=>rfl
     | _=>cases h
 | _=>cases h
theorem Vl {α:Type}:∀(l:List (Bool×α)),l.any (·.1)=false→l.all (fun x=>!x.1)=true
 | [],_=>rfl
 | x :: r,h=>by
   rw[List.any_cons,Bool.or_eq_false_iff] at h
   rw[List.all_cons,Vl r h.2,h.1]
   rfl
theorem ZkN {m:Me}{eo x:Expr}{ap cp:Pos}{es:List Expr}{o:M}{as:Ms}(hb:Yo eo=true)(hl:(ap.endLine == cp.line)=true)(hn:es.length≤20)(ho:DE Γ cl X eo o)(hk:chks c as (x :: es)=true)(ha:DAs Γ cl X (x :: es) as) :
  DE Γ cl X (.Call (.Attribute eo (Zdt m) ap) (x :: es) [] cp) (.meth m o as):=by
 intro σ H ρ S P Q rs re hw
 unfold wE at hw
 have hpx:Zi x=true∧∃r,chks c r es=true:=by
  cases as with
  | nil=>unfold chks at hk;cases hk
  | cons a r=>unfold chks at hk;simp only[Bool.and_eq_true] at hk;exact⟨hk.1.1,r,hk.2⟩
 obtain⟨hp,r,hr⟩:=hpx
 have hany:=ZV c as (x :: es) X.env cp hk
 refine Zu (pe_bm F.plainAttrs_str (Zlh m) (Zli m) (Znq (cl:=cl) m) c_e c_a (YC hb) ?_ hl (Zg hp) (ZV c r es _ _ hr)) ?_
 · rw[Vl _ hany]
   show(true && true && decide _)=true
   rw[Bool.true_and,Bool.true_and]
   apply decide_eq_true
   simp only[List.length_cons,List.length_nil,List.isEmpty_nil,if_true]
   omega
 · refine Ze (ho σ H ρ S P _ rs re hw) fun v H1 ⟨d,S1,le1,rs1,r1,⟨hs,q⟩,_⟩=>?_
   cases r1 with
   | str z=>
     refine⟨rfl,Yc (ha σ H1 ρ S1 P _ rs1 (re.le rs le1) q) fun vs H2 ⟨ds,S2,le2,rs2,rr,q2⟩=>?_⟩
     have q2:optD (meD m S2 (.str z) ds) fun z=>Q z S2:=q2
     cases e:meD m S2 (.str z) ds with
     | none=>rw[e] at q2;exact q2.elim
     | some w=>
       rw[e] at q2
       exact⟨S2,P,.str z,ds,w,rs2,.str z,rr,e,fun w' H3 l=>Ye (le1.trans le2) (Yu l (fun d S' ⟨e1,e2⟩=>by subst e1 e2;exact q2) fun _=>rfl)⟩
   | _=>cases hs
end
end Sw
namespace Sw
open PySem PySem.Spec PyProof.Rows L2
section
variable {prog:Program}{w:World}{A:Around}{E:Value→Shared→Prop}{s:Shared}
theorem Uv (n:Nat):Builtin.Slice.sliceAdjust none none (-1) (n:Int)=((n:Int) - 1,-1)∧Builtin.Slice.slicePlaces ((n:Int) - 1) (-1) (-1)=n:=by
 refine⟨rfl,?_⟩
 unfold Builtin.Slice.slicePlaces
 have h1:¬((-1:Int) > 0):=by decide
 rw[if_neg h1]
 by_cases h:(n:Int) - 1 > -1
 · rw[if_pos h]
   have:((n:Int) - 1 - -1 - 1) / (- -1)=(n:Int) - 1:=by
    rw[show(- -1:Int)=1 by decide,Int.ediv_one]
    omega
   rw[this]
   omega
 · rw[if_neg h]
   omega
theorem ZeU (xs:Array Value):((List.range xs.size).filterMap fun(m:Nat)=>xs[(((xs.size:Int) - 1)+(m:Int) * -1).toNat]?).toArray=xs.toList.reverse.toArray:=by
 congr 1
 have e:((List.range xs.size).filterMap fun(m:Nat)=>xs[(((xs.size:Int) - 1)+(m:Int) * -1).toNat]?)=((List.range xs.size).map fun k=>xs.size - 1 - k).filterMap (xs[·]?):=by
  rw[List.filterMap_map]
  congr 1
  funext m
  have:(((xs.size:Int) - 1)+(m:Int) * -1).toNat=xs.size - 1 - m:=by omega
  rw[this]
  rfl
 rw[e,PySem.W.krv_range,List.filterMap_reverse,PySem.W.krv_all]
theorem ZdV {sl:Addr}{vc:Value}{n:Nat}{Q:Int×Int×Nat→Shared→Prop}(hs:s.heap.IsSliceOf sl .none .none vc)(pc:IsPart vc (some (-1)))
  (h:Q ((n:Int) - 1,-1,n) s):wpAny (model prog w) A (Builtin.Slice.sliceApplied (.ref sl) (pure (n:Int))) Q E s:=by
 obtain⟨os,hos,hcs,hds⟩:=id hs
 unfold Builtin.Slice.sliceApplied Builtin.Slice.sliceFields
 refine wpAny_bind (wpAny_bind (wpAny_field hos hds (x:=.none) rfl (wpAny_bind (wpAny_field hos hds (x:=.none) rfl (wpAny_bind (wpAny_field hos hds (x:=vc) rfl (wpAny_pure ?_)))))))
 refine wpAny_bind (HT.slicePart_ pc ?_)
 show wpAny _ _ (if((-1:Int) == 0)=true then _ else _) _ _ s
 rw[if_neg (by decide)]
 refine wpAny_bind (HT.slicePart_ .none (wpAny_bind (HT.slicePart_ .none (wpAny_bind (wpAny_pure ?_)))))
 show wpAny _ _ (match Builtin.Slice.sliceAdjust none none (-1) (n:Int) with | (lo,hi)=>pure (lo,(-1:Int),Builtin.Slice.slicePlaces lo hi (-1))) _ _ s
 rw[(Uv n).1]
 show wpAny _ _ (pure ((n:Int) - 1,(-1:Int),Builtin.Slice.slicePlaces ((n:Int) - 1) (-1) (-1))) _ _ s
 rw[(Uv n).2]
 exact wpAny_pure h
theorem Zey {t sl:Addr}{items:Array Value}{vc:Value}{Q:Value→Shared→Prop}(ht:IsTup s.heap t items)(hs:s.heap.IsSliceOf sl .none .none vc)(pc:IsPart vc (some (-1)))
  (h:Q (.ref s.heap.objs.size) { s with heap:=s.heap.push { cls:=.type "tuple",data:=.seq items.toList.reverse.toArray } })
  (hsz:items.size≤sizeLine):wpAny (model prog w) A (getItem (.ref t) (.ref sl)) Q E s:=by
 have htake:sizeOk (.seq items.toList.reverse.toArray):=by
  show items.toList.reverse.toArray.size≤sizeLine
  rw[List.size_toArray,List.length_reverse,Array.length_toList]
  exact hsz
 obtain⟨os,hos,hcs,hds⟩:=id hs
 have hTs:s.TypeIs (.ref sl) "slice" :=⟨os,hos,hcs⟩
 unfold getItem
 try with_reducible refine wpAny_holding ?_
 first | refine wpAny_bind (wpAny_pure ?_) | skip
 refine wpAny_bind (wpAny_sequenceKey ht.typeIs (by decide) ?_)
 refine wpAny_bind (wpAny_callSpecial?_slot (name:=Str.ofString "__getitem__") ht.typeIs PyProof.Rows.slot_tuple_getitem
  (wpAny_call_entry PyProof.Rows.slot_tuple_getitem ht.typeIs entry_tuple_getitem ?_ (args_tuple_getitem _ _)))
 show wpAny _ _ (Builtin.Tuple.tupleItemsOf (.ref t) >>= _) _ _ s
 refine wpAny_bind (PyProof.Rows.tupleItemsOf_ ht ?_)
 refine wpAny_bind (wpAny_typeOf hTs ?_)
 rw[if_pos (by decide)]
 refine wpAny_bind (ZdV hs pc ?_)
 have hno:¬((((items.size:Int) - 1) == 0 && (-1:Int) == 1 && items.size == items.size)=true):=by
  intro q
  rw[Bool.and_eq_true,Bool.and_eq_true] at q
  have q2:(-1:Int)=1:=eq_of_beq q.1.2
  omega
 show wpAny _ _ (if(((items.size:Int) - 1) == 0 && (-1:Int) == 1 && items.size == items.size)=true then _ else _) _ _ s
 rw[if_neg hno,ZeU]
 first
  | exact wpAny_bind (m:=Builtin.Tuple.tupleExact _) (wpAny_newObj_type (wpAny_pure ⟨_,rfl,wpAny_pure h⟩) htake)
  | exact wpAny_bind (m:=Builtin.Tuple.tupleExact _) (wpAny_newObj_type (wpAny_bind (wpAny_pure (wpAny_pure ⟨_,rfl,wpAny_pure h⟩))) htake)
  | exact wpAny_bind (wpAny_bind (m:=Builtin.Tuple.tupleExact _) (wpAny_newObj_type (wpAny_pure (wpAny_pure ⟨_,rfl,wpAny_pure h⟩)) htake))
  | exact wpAny_bind (wpAny_bind (m:=Builtin.Tuple.tupleExact _) (wpAny_newObj_type (wpAny_pure ⟨_,rfl,wpAny_pure h⟩) htake))
end
section
variable {Γ:Gam}{cl:ClsT}{k:Nat}{X:Cx}{c:Cd}
def tRev (K:PySem.W.Frag)(te:TE):TE:=fun σ H Q=>te σ H fun x H1=>∃a xs,x=.ref a∧((SqL K H1 a xs∧∀p,H1 p=none→Q (.ref p) (upd H1 p (.lst xs.reverse)))∨(SqT K H1 a xs∧NewT xs.reverse Q H1))
theorem ZnK {e:Expr}{te:TE}{k:Nat}{p1 p2 p3 pos:Pos}(he:PE X e te):PE X (.Subscript e (.Slice none none (some (.UnaryOp .USub (.Constant (.int 1) k p1) p2)) p3) pos) (tRev X.K te):=by
 refine⟨fun pins s σ H Q I h=>?_⟩
 refine Subscript_ (thn (he.run pins s σ H _ I h) fun v s1 ⟨x,H1,I1,r1,q1⟩=>?_)
 obtain⟨a,xs,ex,q⟩:=q1
 subst ex
 cases r1
 have hst:PO X (some (.UnaryOp .USub (.Constant (.int 1) k p1) p2)) (tPart (tUn (rU fun i=>.int (-i)) (tC (.int 1)))):=po_some (pe_un un_neg pe_int)
 refine wpAny_Slice (thn (po_none.run pins s1 σ H1 (fun o H2=>o=none∧H2=H1) I1 ⟨rfl,rfl⟩) fun vl s2 ⟨l,H2,I2,pl,el,e2⟩=>?_)
 subst el e2
 refine thn (po_none.run pins s2 σ H2 (fun o H3=>o=none∧H3=H2) I2 ⟨rfl,rfl⟩) fun vu s3 ⟨u,H3,I3,pu,eu,e3⟩=>?_
 subst eu e3
 refine thn (hst.run pins s3 σ H3 (fun o H4=>o=some (-1)∧H4=H3) I3 ⟨1,rfl,-1,rfl,rfl,rfl⟩) fun vs s4 ⟨o,H4,I4,ps,eo,e4⟩=>?_
 subst eo e4
 have I5:Inv X pins σ H4 { s4 with heap:=s4.heap.push { cls:=.type "slice",data:=.fields #[vl,vu,vs] } }:=I4.kept (t':=s4.toks) fun b ob q=>Heap.get?_push_of_some _ q
 rcases q with ⟨hx,q⟩ |⟨hx,q⟩
 · obtain⟨its,r,ht,hz⟩:=I5.list hx
   have hlen:=r.length
   show wpAny (model X.prog X.w) X.A (subscriptTail e (.Slice none none (some (.UnaryOp .USub (.Constant (.int 1) k p1) p2)) p3) (.ref a) (.ref s4.heap.objs.size)) (EP X pins σ Q) X.xe { s4 with heap:=s4.heap.push { cls:=.type "slice",data:=.fields #[vl,vu,vs] } }
   refine tail_any (ops:=[.ref a,.ref s4.heap.objs.size]) ht.isList.typeIs (PySem.slot_list_getitem.lookup) ?_ (by with_unfolding_all rfl)
   refine wpAny_getItem_list_slice ht.isList (Heap.IsSliceOf.new _ vl vu vs) pl pu ps (by decide) ?_ (by rw[List.size_toArray];omega)
   rw[PySem.W.krv_pick]
   refine⟨.ref _,_,I5.laid (t':=s4.toks) (o:=.lst xs.reverse) (fun b ob q=>Heap.get?_push_of_some _ q) (Nat.le_refl _) ?_,rfl,q _ (I5.hok.fresh (Nat.le_refl _))⟩
   exact⟨by rw[List.length_reverse];exact hz,_,0,r.reverse,Heap.get?_push_size _ rfl⟩
 · obtain⟨its,r,ht,hz⟩:=I5.tuple hx
   have hlen:=r.length
   cases pl
   cases pu
   show wpAny (model X.prog X.w) X.A (subscriptTail e (.Slice none none (some (.UnaryOp .USub (.Constant (.int 1) k p1) p2)) p3) (.ref a) (.ref s4.heap.objs.size)) (EP X pins σ Q) X.xe { s4 with heap:=s4.heap.push { cls:=.type "slice",data:=.fields #[.none,.none,vs] } }
   refine tail_any (ops:=[.ref a,.ref s4.heap.objs.size]) ht.typeIs (PyProof.Rows.slot_tuple_getitem.lookup) ?_ (by with_unfolding_all rfl)
   refine Zey ht (Heap.IsSliceOf.new _ .none .none vs) ps ?_ (by rw[List.size_toArray];omega)
   exact laid_tup (tk:=s4.toks) I5 r.reverse (by rw[List.length_reverse];exact hz) q
theorem Zmx {a:Expr}{ma:M}{j:Nat}{p1 p2 p3 pos:Pos}(ha:DE Γ cl X a ma):DE Γ cl X (.Subscript a (.Slice none none (some (.UnaryOp .USub (.Constant (.int 1) j p1) p2)) p3) pos) (.rev ma):=by
 intro σ H ρ S P Q rs re hw
 unfold wE at hw
 refine Zu (ZnK c_e) ?_
 refine Ze (ha σ H ρ S P _ rs re hw) fun v H1 ⟨x,S1,le1,rs1,r1,q,_⟩=>?_
 have q:optD (revD S1 x) fun z=>Q z S1:=q
 have other:∀ds,peel S1 x=some ds→Q (.lst ds.reverse) S1→∃a xs,v=.ref a∧((SqL X.K H1 a xs∧∀p,H1 p=none→lift X.K cl true Q H S P (.ref p) (upd H1 p (.lst xs.reverse)))∨(SqT X.K H1 a xs∧NewT xs.reverse (lift X.K cl true Q H S P) H1)):=by
  intro ds hp q
  obtain⟨a,xs,rfl,h1,rr⟩:=ZM rs1 r1 hp
  exact⟨a,xs,rfl,.inl ⟨SqL.of h1,fun p hp=>Wp le1 rs1 hp rr.reverse q⟩⟩
 unfold revD at q
 split at q
 · cases r1 with
   | tup e rr=>exact⟨_,_,rfl,.inr ⟨e.t,fun p o hp hn=>Zad le1 rs1 hp hn rr.reverse q⟩⟩
 · split at q
   · next ds hp=>exact other ds hp q
   · exact q.elim
theorem ZgS (F:XF Γ cl k X)(C:XC c X):∀(ts:List Ty)(ns:List Expr),tysC c ts ns=true→∀σ H,cA X ns σ H fun vs H1=>vs=ts.map (fun t=>V.ty t.nm)∧H1=H
 | [],ns,h,σ,H=>by
   unfold tysC at h
   split at h
   · exact Zcw pa_nil ⟨rfl,rfl⟩
   · cases h
 | t :: ts,ns,h,σ,H=>by
   unfold tysC at h
   split at h
   · next n p es=>
     simp only[Bool.and_eq_true,decide_eq_true_eq] at h
     obtain⟨⟨h1,h2⟩,h3⟩:=h
     subst h1
     have hn:Str.ofString t.nm≠("__name__" : Str):=by cases t <;> decide +kernel
     have hd:(Str.ofString t.nm == ("__debug__" : Str))=false:=by cases t <;> decide +kernel
     have pt:PE X (.Name (Str.ofString t.nm) p) (tC (.ty t.nm)):=pe_bltn (ZE C h2) (F.blt _ (ZfA t)) (Zcb t) rfl hn hd
     refine Zcw (pa_cons pt c_a rfl) ?_
     exact Yc (ZgS F C ts es h3 σ H) fun vs H1 ⟨e1,e2⟩=>⟨by rw[e1];rfl,e2⟩
   · cases h
theorem Za7:∀ts:List Ty,Paired ClsV (ts.map fun t=>V.ty t.nm) (ts.map fun t=>Value.type t.nm)
 | []=>.nil
 | t :: r=>.cons (.ty _) (Za7 r)
theorem Zfe {K:PySem.W.Frag}{v:Value}{S:Za}{d:D}(h:∀t:Ty,∃b,isaD t S d=some b∧PySem.W.kitOne K v (.type t.nm)=some b):∀ts:List Ty,PySem.W.kitAny K v (ts.map fun t=>Value.type t.nm)=some (ts.any fun t=>isaD t S d == some true)
 | []=>rfl
 | t :: r=>by
   obtain⟨b,h1,h2⟩:=h t
   rw[List.map_cons,PySem.W.kitAny,h2,List.any_cons,h1]
   cases b with
   | true=>rfl
   | false=>exact Zfe h r
theorem ZkL (F:XF Γ cl k X)(C:XC c X){ts:List Ty}{x:Expr}{ns:List Expr}{j:Nat}{p p' pos:Pos}{a:M}(h1:gloC c "isinstance" = true) (h0:ts.length≤20) (h2:tysC c ts ns=true) (hp:Zi x=true) (ha:DE Γ cl X x a) :
  DE Γ cl X (.Call (.Name "isinstance" p) [x,.Tuple ns j p'] [] pos) (.isat ts a):=by
 intro σ H ρ S P Q rs re hw
 unfold wE at hw
 refine Zu (pe_callB call_isiT (ZE C h1) (F.blt _ (by decide +kernel)) PyProof.Rows.boot_isinstance (pa_cons c_e (pa_cons (pe_tup c_a) pa_nil rfl) (Zg hp)) (by decide +kernel) (by decide +kernel) (Zg hp) rfl) ?_
 refine Ze (ha σ H ρ S P _ rs re hw) fun v H1 ⟨d,S1,le1,rs1,r,q,_⟩=>?_
 have q:optB (YW ts S1 d) fun b=>Q (.bl b) S1:=q
 unfold YW at q
 cases e:isaD .int S1 d with
 | none=>rw[e] at q;exact q.elim
 | some b0=>
   rw[e] at q
   refine Yc (ZgS F C ts ns h2 σ H1) fun vs H2 ⟨e1,e2⟩=>?_
   subst e1 e2
   have hlen:ts.length≤sizeLine:=Nat.le_trans h0 (by decide +kernel)
   refine⟨by rw[List.length_map];exact hlen,fun p hp=>?_⟩
   have le2:=Le.new (o:=.tup (ts.map fun t=>V.ty t.nm)) rs1 hp
   obtain⟨n,t1,t2⟩:=Zk5 (rs1.new hp) (Rep.le rs1 le2 _ r) e
   exact⟨v,p,_,_,_,_,rfl,upd_same,Za7 ts,t1,Zfe t2 ts,Zw (le1.trans le2) (rs1.new hp) (.bl _) q (.inr rfl)⟩
theorem Zmz {e:Expr}:DE Γ cl X e .unr:=by
 intro σ H ρ S P Q rs re hw
 unfold wE at hw
 exact hw.elim
end
end Sw
namespace Sw
open PySem PySem.Spec PyProof.Rows L2
section
variable {Γ:Gam}{cl:ClsT}{k:Nat}{X:Cx}{c:Cd}
theorem ZkM (F:XF Γ cl k X)(C:XC c X){x:Expr}{p p' pos pos':Pos}{a:M}(h1:gloC c "len" = true) (h2:gloC c "set" = true) (hp:Zi x=true) (ha:DE Γ cl X x a) :
  DE Γ cl X (.Call (.Name "len" p) [.Call (.Name "set" p') [x] [] pos'] [] pos) (.lset a):=by
 intro σ H ρ S P Q rs re hw
 unfold wE at hw
 refine Zu (Zb0 (R:=fun ks H Q=>Q (.int (Yp ks).length) H) F.calm (ZE C h1) (F.blt _ (by decide +kernel)) boot_len (by decide +kernel) (by decide +kernel) (ZE C h2) (F.blt _ (by decide +kernel)) c_e (Zg hp) fun pins s σ H Q d ks I R q=>Zjx I R q) ?_
 refine Ze (ha σ H ρ S P _ rs re hw) fun v H1 ⟨d,S1,le1,rs1,r,q,_⟩=>?_
 have q:optD (YO S1 d) fun z=>Q z S1:=q
 unfold YO at q
 split at q
 · next xs hs=>
   split at q
   · next ks hk=>
     split at q
     · next few=>
       obtain⟨l,vs,rfl,hl,rr⟩:=Yl rs1 r hs
       have e:=UP hk
       subst e
       have ev:=Zbs rr
       subst ev
       exact⟨l,ks,rfl,hl.imp SqL.of TupF.t,by show ks.length+1<4096;omega,Zw le1 rs1 (.int _) q (.inl rfl)⟩
     · exact q.elim
   · exact q.elim
 · exact q.elim
theorem ZkT (F:XF Γ cl k X)(C:XC c X){x:Expr}{p p' pos pos':Pos}{a:M}(h1:gloC c "sorted" = true) (h2:gloC c "set" = true) (hp:Zi x=true) (ha:DE Γ cl X x a) :
  DE Γ cl X (.Call (.Name "sorted" p) [.Call (.Name "set" p') [x] [] pos'] [] pos) (.sset a):=by
 intro σ H ρ S P Q rs re hw
 unfold wE at hw
 refine Zu (Zb0 (R:=fun ks H Q=>ZcG (Yp ks)∧∀p (bs:List Key),H p=none→bs.Perm (Yp ks)→Q (.ref p) (upd H p (.lst ((bs.mergeSort leK).map kV)))) F.calm (ZE C h1) (F.blt _ (by decide +kernel)) (by decide +kernel) (by decide +kernel) (by decide +kernel) (ZE C h2) (F.blt _ (by decide +kernel)) c_e (Zg hp) fun pins s σ H Q d ks I R q=>Zjy F.calm F.hu I R (ZiD q.1) (ZeM _) q.2) ?_
 refine Ze (ha σ H ρ S P _ rs re hw) fun v H1 ⟨d,S1,le1,rs1,r,q,_⟩=>?_
 have q:optD (YQ S1 d) fun z=>Q z S1:=q
 unfold YQ at q
 split at q
 · next xs hs=>
   split at q
   · next ks hk=>
     split at q
     · next few=>
       obtain⟨l,vs,rfl,hl,rr⟩:=Yl rs1 r hs
       have e:=UP hk
       subst e
       have ev:=Zbs rr
       subst ev
       refine⟨l,ks,rfl,hl.imp SqL.of TupF.t,by show ks.length+1<4096;omega,ZdQ few.2,fun p bs hp pm=>?_⟩
       have q:Q (.lst (Xf ((Yp ks).map kD))) S1:=q
       rw[ZjC,← Zh8 (ZdQ few.2) pm] at q
       exact Wp le1 rs1 hp (Zfd _) q
     · exact q.elim
   · exact q.elim
 · exact q.elim
theorem Zhd {K:PySem.W.Frag}{H:Hp}{S:Za}{P:Addr→Prop}(rs:RS K cl H S P){v:V}{d:D}{n:Str}{fs:List (Str×D)}(r:Rep K H S P v d)(h:insD S d=some (n,fs)) :
  ∃a C dx vs,d=.obj a∧v=.ref a∧S a=some (.ins n fs)∧cl n=some C∧vs.length=fs.length∧H a=some (.ins C dx ((fs.map (·.1)).zip vs))∧Zb K H S P vs (fs.map (·.2)):=by
 unfold insD at h
 split at h
 · next a=>
   split at h
   · next c' fs' e=>
     cases h
     cases r
     obtain⟨_,C,dx,vs,hc,hl,hh,q⟩:=rs.own a _ e
     exact⟨a,C,dx,vs,rfl,rfl,e,hc,hl,hh,q⟩
   · cases h
 · cases h
theorem Zbp {K:PySem.W.Frag}{H:Hp}{S:Za}{P:Addr→Prop}{f:Str}:∀ {fs:List (Str×D)} {vs:List V},Zb K H S P vs (fs.map (·.2))→(fs.lookup f=none∧((fs.map (·.1)).zip vs).lookup f=none)∨∃d v,fs.lookup f=some d∧((fs.map (·.1)).zip vs).lookup f=some v∧Rep K H S P v d
 | [],_,.nil=>.inl ⟨rfl,rfl⟩
 | (g,x) :: r,_,.cons (v:=v) h t=>by
   rw[List.map_cons,List.zip_cons_cons,List.lookup_cons,List.lookup_cons]
   by_cases e:(f == g)=true
   · rw[e];exact .inr ⟨x,v,rfl,rfl,h⟩
   · have e:(f == g)=false:=by simpa using e
     rw[e]
     exact Zbp t
theorem ZoO (F:XF Γ cl k X){x:Expr}{f:Str}{pos:Pos}{a:M}(hb:Yo x=true)(ha:DE Γ cl X x a):DE Γ cl X (.Attribute x f pos) (.at a f):=by
 intro σ H ρ S P Q rs re hw
 unfold wE at hw
 refine Zu (pe_fld c_e (YC hb)) ?_
 refine Ze (ha σ H ρ S P _ rs re hw) fun v H1 ⟨d,S1,le1,rs1,r,q,_⟩=>?_
 have q:(match insD S1 d with | some (c,fs)=>Γ.fld c f∧optD (fs.lookup f) fun z=>Q z S1 | none=>False):=q
 cases e:insD S1 d with
 | none=>rw[e] at q;exact q.elim
 | some nf=>
   obtain⟨n,fs⟩:=nf
   rw[e] at q
   obtain⟨q1,q2⟩:=q
   obtain⟨p,C,dx,vs,rfl,rfl,eS,hc,hl,hh,rr⟩:=Zhd rs1 r e
   obtain⟨C',hc',cls,na⟩:=F.flds _ _ q1
   rw[hc] at hc'
   cases hc'
   rcases Zbp (f:=f) rr with ⟨e1,_⟩ |⟨d,v,e1,e2,r2⟩
   · rw[e1] at q2;exact q2.elim
   · rw[e1] at q2
     exact⟨p,C,dx,_,v,rfl,hh,cls,na,e2,Zw le1 rs1 r2 q2 (.inr rfl)⟩
theorem Zf5 {o:Expr}{m:Str}{apos pos:Pos}{es:List Expr}{env:Env}(hb:attributeBase o m env (eval o env)=eval o env)(hl:(apos.endLine == pos.line)=true)(hs:(backTo pos (starEach es env)).all (fun x=>!x.1)=true)(hn:es.length≤20) :
  eval (.Call (.Attribute o m apos) es [] pos) env=(do
   let ov ← eval o env
   standAt apos.atName
   let (f,first) ← holding [ov] (getMethod ov m (do return (← importBound o env).getD true))
   callWith pos f first (backTo pos (starEach es env)) (backToKw pos (keywordEach [] env))):=by
 refine mcall_of hb fun ov=>?_
 have few:methodCallForm (es.length+([]:List Keyword).length) (backTo pos (starEach es env)) (backToKw pos (keywordEach [] env))=true:=by
  unfold methodCallForm
  rw[hs]
  show(true && true && decide _)=true
  rw[Bool.true_and,Bool.true_and]
  apply decide_eq_true
  simp only[List.length_nil]
  have:(if(backToKw pos (keywordEach ([]:List Keyword) env)).isEmpty=true then 0 else 1)≤1:=by split <;> omega
  omega
 unfold methodCall
 rw[few]
 unfold calleeOf methodCallPos
 rw[hl]
 simp
theorem Zb5 {X:Cx}{k:Nat}{f C:Addr}{fd:FuncData}{ps:List Str}{sp:Sp}{pins:List (Addr×Obj)}{σ:L2.St}{H:Hp}{s:Shared}{Q:VK}{us:List Value}{vs:List V}(M:Mk X.K C f)(F:YV X.prog X.w X.K X.mg X.base k f fd ps sp)(hr:Room (k+1) X.A)(hgd:X.A.guards=some [])(hb:Binds X.K fd ps [])
  (I:Inv X pins σ H s) (r:Vals vs us) (h:∀x dx,H x=none→H dx=none→dx≠x→sp (.ref x :: vs) (upd (upd H dx (.own x)) x (.ins C dx [])) (fun v H2=>v=.non∧Q (.ref x) H2) E0) :
  wpAny (model X.prog X.w) X.A (call (.ref C) us) (EP X pins σ Q) X.xe s:=by
 have hq:=h (s.heap.objs.size+1) s.heap.objs.size (I.hok.fresh (Nat.le_succ _)) (I.hok.fresh (Nat.le_refl _)) (Nat.ne_of_lt (Nat.lt_succ_self _))
 have I2:=Inv.made (C:=C) I
 have r2:Vals (V.ref (s.heap.objs.size+1) :: vs) (Value.ref (s.heap.objs.size+1) :: us):=.cons rfl r
 have hl:(Value.ref (s.heap.objs.size+1) :: us).length=ps.length:=by rw[← r2.length];exact F.len _ _ _ _ hq
 have hb':=hb _ (Value.ref (s.heap.objs.size+1) :: us) I2.kIn (by rw[List.append_nil];exact hl)
 rw[List.append_nil] at hb'
 have hgd2:(X.A.under (.builtin "type.__call__" ⟨.ref C :: us,[]⟩)).guards=some []:=by first | exact hgd | (simpa [Around.under] using hgd)
 refine wpAny_call (make_map (f:=f) I.kIn M.makes M.init (beq_iff_eq.mp M.fn) (codeAny_mono (F.run _ X.stack _ _ ⟨Value.ref (s.heap.objs.size+1) :: us,[]⟩ _ _ _ E0 (hr.make C us []) hgd2 (I2.env0.make C us []) hb' r2 hq) fun r s' hq'=>?_))
 rcases r with e | (u | _ | _ | _)
 · exact False.elim hq'
 all_goals first | exact False.elim hq' | skip
 obtain⟨v,H',I3,rv,ev,q3⟩:=I2.after hq'
 subst ev
 exact⟨rv,⟨V.ref (s.heap.objs.size+1),H',I3,rfl,q3⟩⟩
theorem ZiO (F:XF Γ cl k X){m:Str}{eo:Expr}{ap cp:Pos}{es:List Expr}{o:M}{as:Ms}(hb:Yo eo=true)(hl:(ap.endLine == cp.line)=true)(hn:es.length≤20)(ho:DE Γ cl X eo o)(hk:chks c as es=true)(ha:DAs Γ cl X es as) :
  DE Γ cl X (.Call (.Attribute eo m ap) es [] cp) (.mcall o m as):=by
 intro σ H ρ S P Q rs re hw
 unfold wE at hw
 have hs:=Vl _ (ZV c as es X.env cp hk)
 have O:=ho σ H ρ S P _ rs re hw
 intro pins s I
 refine PySem.W.methodCall_KW (thn (O pins s I) fun u s1 ⟨x,H1,I1,rx,d,S1,le1,rs1,r1,q,_⟩=>?_) (Zf5 (YC hb) hl hs hn)
 have q:(match insD S1 d with | some (c,fs)=>fs.lookup m=none∧∃sp,Γ.me c m sp∧wEs Γ as ρ S1 fun ds S2=>sp (d :: ds) S2 Q | none=>False):=q
 cases e:insD S1 d with
 | none=>rw[e] at q;exact q.elim
 | some nf=>
   obtain⟨n,fs⟩:=nf
   rw[e] at q
   obtain⟨q0,sp,q1,q2⟩:=q
   obtain⟨p,C,dx,vs,rfl,rfl,eS,hc,hlen,hh,rr⟩:=Zhd rs1 r1 e
   obtain⟨mono,C',f,fd,ps,hc',cls,me,bi,FN⟩:=F.mes _ _ _ q1
   rw[hc] at hc'
   cases hc'
   obtain rfl:u=Value.ref p:=rx
   have q0':((fs.map (·.1)).zip vs).lookup m=none:=by
    rcases Zbp (f:=m) rr with ⟨_,e2⟩ |⟨d,v,e1,_,_⟩
    · exact e2
    · rw[q0] at e1;cases e1
   refine getmeth_ok I1 hh cls me q0' ?_
   have go:∀vs H2,ZcB X.K cl (fun ds S2=>sp (.obj p :: ds) S2 Q) H S P vs H2→YI X.K cl sp (.ref p :: vs) H2 (lift X.K cl false Q H S P) E0:=by
    rintro vs H2 ⟨ds,S2,le2,rs2,rr,q⟩
    exact⟨.obj p :: ds,S2,P,rs2,.cons (.obj p) rr,mono _ _ _ _ (fun d S' q v H' le rs' r=>Zw (le2.trans le) rs' r q (.inr rfl)) q⟩
   cases es with
   | nil=>
     cases as with
     | cons a r=>unfold chks at hk;cases hk
     | nil=>
       unfold wEs at q2
       refine PySem.W.callWith_K0 (first:=[.ref p]) I1.kIn me.kp (Qy (us:=[.ref p]) (vs:=[.ref p]) FN F.room F.gd bi I1 (.cons rfl .nil) ?_)
       exact go [] H1 ⟨[],S1,le1,rs1,.nil,q2⟩
   | cons e es=>
     have hpx:Zi e=true∧∃r,chks c r es=true:=by
      cases as with
      | nil=>unfold chks at hk;cases hk
      | cons a r=>unfold chks at hk;simp only[Bool.and_eq_true] at hk;exact⟨hk.1.1,r,hk.2⟩
     obtain⟨hp,r,hr⟩:=hpx
     have A:=ha σ H1 ρ S1 P _ rs1 (re.le rs le1) q2
     refine PySem.W.callWith_K (first:=[.ref p]) (h₀:=X.base) I.ok.mod.kin me.kp (thn (A cp pins s1 I1) fun us s2 ⟨vs,H2,I2,rv,⟨ds,S2,le2,rs2,rr2,q3⟩⟩=>⟨I2.kIn,?_⟩) (Zg hp) (ZV c r es _ _ hr)
     exact Qy (us:=.ref p :: us) (vs:=.ref p :: vs) FN F.room F.gd bi I2 (.cons rfl rv) (go vs H2 ⟨ds,S2,le1.trans le2,rs2,rr2,q3⟩)
theorem RS.newIns {K:PySem.W.Frag}{H:Hp}{S:Za}{P:Addr→Prop}(r:RS K cl H S P){n:Str}{C x dx:Addr}(hc:cl n=some C)(hx:H x=none)(hd:H dx=none)(ne:dx≠x) :
  Le H S P (upd (upd H dx (.own x)) x (.ins C dx [])) (sput S x (.ins n []))∧RS K cl (upd (upd H dx (.own x)) x (.ins C dx [])) (sput S x (.ins n [])) P:=by
 have l1:=Le.new (o:=.own x) r hd
 have r1:=r.new (o:=.own x) hd
 have hx1:upd H dx (.own x) x=none:=by rw[upd_ne (Ne.symm ne)];exact hx
 have le2:Le (upd H dx (.own x)) S P (upd (upd H dx (.own x)) x (.ins C dx [])) (sput S x (.ins n [])):=Le.newOwn r1 hx1
 refine⟨l1.trans le2,fun a mo e=>?_,fun a z=>?_,XL r1 (.inl hx1)⟩
 · by_cases ha:a=x
   · subst ha
     rw[Zq] at e;cases e
     exact⟨(r1.none_of hx1).2,C,dx,[],hc,rfl,upd_same,.nil⟩
   · rw[Zo ha] at e
     obtain⟨np,m⟩:=r1.own a mo e
     exact⟨np,r1.le_own le2 m (upd_ne ha)⟩
 · obtain⟨s,xs,e,mu⟩:=r1.hid a z
   exact⟨by rw[Zo (ne_of_none e hx1)];exact s,xs,by rw[upd_ne (ne_of_none e hx1)];exact e,mu⟩
theorem ZoR (F:XF Γ cl k X)(C:XC c X){n:Str}{es:List Expr}{as:Ms}{p pos:Pos}(hg:gloC c n=true)(hd:(n == ("__debug__" : Str))=false) (hk:chks c as es=true) (h:DAs Γ cl X es as):DE Γ cl X (.Call (.Name n p) es [] pos) (.mk n as):=by
 intro σ H ρ S P Q rs re hw
 unfold wE at hw
 obtain⟨sp,ef,hw⟩:=hw
 obtain⟨mono,Ca,f,fd,ps,j,hj,m1,m2,M,bi,FN⟩:=F.inis n sp ef
 have hr:Room (j+1) X.A:=F.room.mono hj
 have go:∀vs H1,ZcB X.K cl (fun ds S1=>∀p,S1 p=none→sp (.obj p :: ds) (sput S1 p (.ins n [])) fun v S2=>v=.non∧Q (.obj p) S2) H S P vs H1→
   ∀x dx,H1 x=none→H1 dx=none→dx≠x→YI X.K cl sp (.ref x :: vs) (upd (upd H1 dx (.own x)) x (.ins Ca dx [])) (fun v H2=>v=.non∧lift X.K cl false Q H S P (.ref x) H2) E0:=by
  rintro vs H1 ⟨ds,S1,le1,rs1,rr,q⟩ x dx hx hdx ne
  obtain⟨le2,rs2⟩:=rs1.newIns (n:=n) m2 hx hdx ne
  refine⟨.obj x :: ds,_,P,rs2,.cons (.obj x) (Zb.le rs1 le2 _ rr),mono _ _ _ _ (fun d S' q v H' le rs' r=>?_) (q x (rs1.none_of hx).1)⟩
  obtain⟨rfl,q⟩:=q
  cases r
  exact⟨rfl,Zw ((le1.trans le2).trans le) rs' (.obj x) q (.inr rfl)⟩
 cases es with
 | nil=>
   cases as with
   | cons a r=>unfold chks at hk;cases hk
   | nil=>
     unfold wEs at hw
     intro pins s I
     refine wpAny_Call_Name_kw (ld_glob I (ZE C hg) m1 ?_ hd)
     exact PySem.W.callWith_K0 I.kIn M.kp (Zb5 (us:=[]) M FN hr F.gd bi I .nil (go [] H ⟨[],S,Le.refl rs,rs,.nil,hw⟩))
 | cons e es=>
   have hpx:Zi e=true∧∃r,chks c r es=true:=by
    cases as with
    | nil=>unfold chks at hk;cases hk
    | cons a r=>unfold chks at hk;simp only[Bool.and_eq_true] at hk;exact⟨hk.1.1,r,hk.2⟩
   obtain⟨hp,r,hr'⟩:=hpx
   have A:=h σ H ρ S P _ rs re hw
   intro pins s I
   refine wpAny_Call_Name_kw (ld_glob I (ZE C hg) m1 ?_ hd)
   refine PySem.W.callWith_K (h₀:=X.base) I.ok.mod.kin M.kp (thn (A pos pins s I) fun us s1 ⟨vs,H1,I1,rv,q⟩=>⟨I1.kIn,?_⟩) (Zg hp) (ZV c r es _ _ hr')
   exact Zb5 M FN hr F.gd bi I1 rv (go vs H1 q)
end
end Sw
namespace Sw
open PySem PySem.Spec PyProof.Rows L2
section
variable {X:Cx}{cl:ClsT}{H:Hp}{S:Za}{P:Addr→Prop}
theorem Zlx (kvs:List (Key×D)):∀(vs:List V),vs.length=kvs.length→∀k:Key,((kvs.map (·.1)).zip vs).any (fun kv=>decide (kv.1=k))=kvs.any fun kv=>decide (kv.1=k):=by
 induction kvs with
 | nil=>intro vs hl k;rfl
 | cons kv r ih=>
   intro vs hl k
   cases vs with
   | nil=>simp at hl
   | cons v vs=>
     rw[List.map_cons,List.zip_cons_cons,List.any_cons,List.any_cons,ih vs (by simpa using hl)]
theorem Zly {K:PySem.W.Frag}{H:Hp}{S:Za}{P:Addr→Prop}{v:V}{d:D}(k:Key)(r:Rep K H S P v d):∀(kvs:List (Key×D))(vs:List V),Zb K H S P vs (kvs.map (·.2))→
  ∃vs',vs'.length=(kvs.map (fun kv=>if kv.1=k then(kv.1,d) else kv)).length∧((kvs.map (·.1)).zip vs).map (fun kv=>if kv.1=k then(kv.1,v) else kv)=(kvs.map (·.1)).zip vs'∧Zb K H S P vs' ((kvs.map (fun kv=>if kv.1=k then(kv.1,d) else kv)).map (·.2)):=by
 intro kvs
 induction kvs with
 | nil=>intro vs h;cases h;exact⟨[],rfl,rfl,.nil⟩
 | cons kv t ih=>
   intro vs h
   cases h with
   | @cons v0 vs _ _ h1 h2=>
     obtain⟨vs',e1,e2,e3⟩:=ih vs h2
     by_cases hk:kv.1=k
     · refine⟨v :: vs',by simp[e1],?_,?_⟩
       · rw[List.map_cons,List.zip_cons_cons,List.map_cons,e2,List.zip_cons_cons,if_pos hk]
       · rw[List.map_cons,List.map_cons,if_pos hk];exact .cons r e3
     · refine⟨v0 :: vs',by simp[e1],?_,?_⟩
       · rw[List.map_cons,List.zip_cons_cons,List.map_cons,e2,List.zip_cons_cons,if_neg hk]
       · rw[List.map_cons,List.map_cons,if_neg hk];exact .cons h1 e3
theorem ZdD (k:Key)(d:D)(kvs:List (Key×D)):(kvs.map (fun kv=>if kv.1=k then(kv.1,d) else kv)).map (·.1)=kvs.map (·.1):=by
 rw[List.map_map]
 apply List.map_congr_left
 intro kv _
 show(if kv.1=k then(kv.1,d) else kv).1=kv.1
 split <;> rfl
theorem ZhU {K:PySem.W.Frag}{H:Hp}{S:Za}{P:Addr→Prop}{v:V}{d:D}{k:Key}(r:Rep K H S P v d){kvs:List (Key×D)}{vs:List V}(q:Zb K H S P vs (kvs.map (·.2)))(hn:(kvs.map (·.1)).Nodup) :
  ∃vs',vs'.length=(Xe kvs k d).length∧putK ((kvs.map (·.1)).zip vs) k v=((Xe kvs k d).map (·.1)).zip vs'∧Zb K H S P vs' ((Xe kvs k d).map (·.2))∧((Xe kvs k d).map (·.1)).Nodup:=by
 have hl:vs.length=kvs.length:=by rw[q.length,List.length_map]
 unfold putK Xe
 rw[Zlx kvs vs hl k]
 by_cases h:(kvs.any fun kv=>decide (kv.1=k))=true
 · rw[if_pos h,if_pos h]
   obtain⟨vs',e1,e2,e3⟩:=Zly k r kvs vs q
   exact⟨vs',e1,by rw[ZdD];exact e2,e3,by rw[ZdD];exact hn⟩
 · rw[if_neg h,if_neg h]
   refine⟨vs++[v],by simp[hl],?_,?_,?_⟩
   · rw[List.map_append,List.map_cons,List.map_nil,List.zip_append (by rw[List.length_map,hl])]
     rfl
   · rw[List.map_append,List.map_cons,List.map_nil]
     exact Zb.app q (.cons r .nil)
   · rw[List.map_append,List.map_cons,List.map_nil,List.nodup_append]
     refine⟨hn,by simp,fun a ha b hb=>?_⟩
     have hb:b=k:=by simpa using hb
     subst hb
     intro e
     subst e
     obtain⟨kv,h1,h2⟩:=List.mem_map.mp ha
     exact h (List.any_eq_true.mpr ⟨kv,h1,decide_eq_true h2⟩)
theorem US:∀ {xs:List D} {ps:List (Key×D)} {vs:List V},Zb X.K H S P vs xs→ZaW xs=some ps→∃(as:List Addr) (ws:List V),vs=as.map V.ref∧ws.length=ps.length∧Zb X.K H S P ws (ps.map (·.2))∧
  Paired (fun(p:Addr)(kv:Key×V)=>SqT X.K H p [kV kv.1,kv.2]) as ((ps.map (·.1)).zip ws)
 | [],_,_,.nil,h=>by cases h;exact⟨[],[],rfl,rfl,.nil,.nil⟩
 | d :: r,ps,_,.cons a t,h=>by
   unfold ZaW at h
   split at h
   · next p qs e1 e2=>
     cases h
     obtain⟨as,ws,e,l,rr,pp⟩:=US t e2
     unfold pairD at e1
     split at e1
     · next x y=>
       split at e1
       · next kk hk=>
         cases e1
         cases a with
         | tup hs q=>
           obtain⟨v1,v2,rfl,r1,r2⟩:=rep2 q
           have ek:=Wo r1 hk
           subst ek e
           exact⟨_ :: as,v2 :: ws,rfl,by simp[l],.cons r2 rr,.cons hs.t pp⟩
       · cases e1
     · cases e1
   · cases h
theorem ZbV:∀ {ps acc:List (Key×D)} {ws vs:List V},Zb X.K H S P ws (ps.map (·.2))→Zb X.K H S P vs (acc.map (·.2))→(acc.map (·.1)).Nodup→
  ∃us,mergeK ((acc.map (·.1)).zip vs) ((ps.map (·.1)).zip ws)=((ps.foldl (fun kvs p=>Xe kvs p.1 p.2) acc).map (·.1)).zip us∧Zb X.K H S P us ((ps.foldl (fun kvs p=>Xe kvs p.1 p.2) acc).map (·.2))∧((ps.foldl (fun kvs p=>Xe kvs p.1 p.2) acc).map (·.1)).Nodup
 | [],acc,_,vs,.nil,q,nd=>⟨vs,rfl,q,nd⟩
 | p :: r,acc,_,vs,.cons (v:=w) (vs:=ws) h t,q,nd=>by
   obtain⟨vs',l',e,q',nd'⟩:=ZhU (k:=p.1) h q nd
   obtain⟨us,e2,q2,nd2⟩:=ZbV t q' nd'
   refine⟨us,?_,q2,nd2⟩
   show mergeK (putK ((acc.map (·.1)).zip vs) p.1 w) ((r.map (·.1)).zip ws)=_
   rw[e]
   exact e2
theorem ZbZ {pins:List (Addr×Obj)}{σ:L2.St}{H:Hp}{s:Shared}(I:Inv X pins σ H s):∀ {ps:List Addr} {kvs:List (Key×V)},Paired (fun p kv=>SqT X.K H p [kV kv.1,kv.2]) ps kvs→
  ∃(prs:List (Key×Value)) (vv:List (Value×Value)),KV kvs prs∧prs.length=ps.length∧vv.length=ps.length∧∀(j:Nat)(k v:Value),vv[j]?=some (k,v)→∃(b:Addr) (kk:Key),ps[j]?=some b∧IsTup s.heap b #[k,v]∧prs[j]?=some (kk,v)∧keyIs kk k=true
 | _,_,.nil=>⟨[],[],.nil,rfl,rfl,fun j k v e=>by simp at e⟩
 | _,_,.cons (a:=p) (b:=kv) h t=>by
   obtain⟨prs,vv,r,hl,hl2,hp⟩:=ZbZ I t
   obtain⟨its,rv,ht,_⟩:=I.tuple h
   obtain⟨u,y,ei,ru,ry⟩:=vals2 rv
   subst ei
   refine⟨(kv.1,y) :: prs,(u,y) :: vv,.cons ⟨rfl,ry⟩ r,by rw[List.length_cons,List.length_cons,hl],by rw[List.length_cons,List.length_cons,hl2],fun j k v e=>?_⟩
   cases j with
   | zero=>
     have e':(u,y)=(k,v):=Option.some.inj e
     cases e'
     exact⟨p,kv.1,rfl,ht,rfl,kV_is (P:=X.prog) (w:=X.w) ru⟩
   | succ j=>
     obtain⟨b,kk,e1,e2,e3,e4⟩:=hp j k v (by simpa using e)
     exact⟨b,kk,by simpa using e1,e2,by simpa using e3,e4⟩
theorem Zei (hcalm:X.calm=true):CallR X (.type "dict") (fun xs H Q=>∃(a:Addr) (ps:List Addr) (kvs:List (Key×V)),xs=[.ref a]∧TupF X.K H a (ps.map V.ref)∧Paired (fun p kv=>SqT X.K H p [kV kv.1,kv.2]) ps kvs∧
  ∀p,H p=none→Q (.ref p) (upd H p (.dK (mergeK [] kvs)))):=by
 intro pins s σ H xs us Q I r q
 obtain⟨a,ps,kvs,ex,⟨o,hq,hdn⟩,hp,q⟩:=q
 subst ex
 obtain⟨u,eu,rx⟩:=vals1 r
 subst eu
 cases rx
 obtain⟨ho,hz,its,rv,o',e',hc,n,hdat⟩:=I.hok a _ hq
 rw[ho] at e'
 cases e'
 have ei:=refs_at rv
 subst ei
 rw[List.length_map] at hz
 obtain⟨prs,vv,rel,hl,hl2,hpr⟩:=ZbZ I hp
 refine call_dict_pairs (knd:=mixKind X.prog X.w) (kvs:=prs) (PairArg.tuple a (ps.map Value.ref).toArray (fun j=>ps.getD j 0) vv) (I.ok.hd hcalm) ⟨⟨o,n,ho,hc,hdn,hdat⟩,by simp[hl2],fun j k v e=>?_⟩ ⟨by rw[hl,hl2],fun j k v e=>?_⟩ (by rw[hl2];exact hz) fun h' tk hd' k=>?_
 · obtain⟨b,kk,e1,e2,e3,e4⟩:=hpr j k v e
   exact⟨by simp[e1],.inl (show IsTup s.heap (ps.getD j 0) #[k,v] by simpa [e1] using e2)⟩
 · obtain⟨b,kk,e1,e2,e3,e4⟩:=hpr j k v e
   exact⟨kk,e3,e4⟩
 · have hm:(s.heap.objs.size == sysModules)=false:=beq_eq_false_iff_ne.mpr (Nat.ne_of_gt I.big)
   have hlen:(mergeK [] kvs).length≤sizeLine:=by
    refine Nat.le_trans (length_mergeK kvs []) ?_
    rw[List.length_nil,Nat.zero_add,rel.length,hl]
    exact hz
   exact⟨.ref s.heap.objs.size,upd H s.heap.objs.size (.dK (mergeK [] kvs)),I.laid (t':=tk) (fun b o q=>k b o (by simp) q) (Nat.le_refl _) (show ObjOk X.prog X.w _ _ _ (.dK (mergeK [] kvs)) from⟨hlen,hm,merged [] prs,KV.merge rel .nil,hd'⟩),rfl,q _ (I.hok.fresh (Nat.le_refl _))⟩
theorem Zkv (hc:X.calm=true):CallR X (.type "dict") (rBi X cl .dict):=by
 intro pins s σ H xs us Q I r ⟨S,P,ds,z,rs,rp,h,q⟩
 change X9 S ds=some z at h
 unfold X9 at h
 split at h <;> try cases h
 next d=>
 obtain⟨y,rfl,ry⟩:=rep1 rp
 split at h
 · next kvs hk=>
   split at h
   · next hz=>
     cases h
     obtain⟨a,vs,rfl,hl,ha,qs⟩:=XH rs ry hk
     refine call_dictD pins s σ H _ us _ I r ⟨a,_,rfl,ha,fun p hp=>q _ _ ?_⟩
     exact Zac (Le.refl rs) rs hp (by rw[List.length_map,hl]) hz.2 qs ⟨rfl,rfl⟩
   · cases h
 · split at h
   · next ys hs=>
     split at h
     · next ps hp=>
       cases h
       have fin:∀(as:List Addr)(ws:List V),ws.length=ps.length→Zb X.K H S P ws (ps.map (·.2))→∀p,H p=none→Q (.ref p) (upd H p (.dK (mergeK [] ((ps.map (·.1)).zip ws)))):=by
        intro as ws l rr p hp
        obtain⟨us',e,q2,nd⟩:=ZbV (acc:=[]) rr .nil .nil
        refine q _ _ ?_
        have e:mergeK [] ((ps.map (·.1)).zip ws)=((Zdu ps).map (·.1)).zip us':=e
        rw[e]
        exact Zac (Le.refl rs) rs hp (by have:=q2.length;rw[this,List.length_map,List.length_map];rfl) nd q2 ⟨rfl,rfl⟩
       have lst:peel S d=some ys→∃(a:Addr) (vs:List V),y=.ref a∧H a=some (.lst vs)∧Zb X.K H S P vs ys:=fun z=>let ⟨a,vs,e,ha,qs⟩:=ZM rs ry z;⟨a,vs,e,ha,qs⟩
       cases d with
       | tup ds=>
         cases hs
         cases ry with
         | tup ht qs=>
           obtain⟨as,ws,rfl,l,rr,pp⟩:=US qs hp
           exact Zei hc pins s σ H _ us _ I r ⟨_,as,_,rfl,ht,pp,fin as ws l rr⟩
       | _=>
         obtain⟨a,vs,rfl,ha,qs⟩:=lst hs
         obtain⟨as,ws,rfl,l,rr,pp⟩:=US qs hp
         exact call_dictP hc pins s σ H _ us _ I r ⟨a,as,_,rfl,SqL.of ha,pp,fin as ws l rr⟩
     · cases h
   · cases h
mutual
theorem Zfy:∀ {d e:D},d.pure=true→e.pure=true→d.toP=e.toP→d=e
 | .non,e,_,he,h=>by cases e <;> first | (cases he;done) | rfl | cases h
 | .bl b,e,_,he,h=>by cases e <;> first | (cases h;rfl) | cases h | (cases he;done)
 | .int b,e,_,he,h=>by cases e <;> first | (cases h;rfl) | cases h | (cases he;done)
 | .str b,e,_,he,h=>by cases e <;> first | (cases h;rfl) | cases h | (cases he;done)
 | .tup ds,e,hd,he,h=>by
   rw[D.pure] at hd
   cases e with
   | tup es=>rw[D.pure] at he;rw[D.toP,D.toP] at h;rw[Zao hd he (by injection h)]
   | _=>first | (rw[D.toP] at h;cases h;done) | (cases he;done)
 | .lst ds,e,hd,he,h=>by
   rw[D.pure] at hd
   cases e with
   | lst es=>rw[D.pure] at he;rw[D.toP,D.toP] at h;rw[Zao hd he (by injection h)]
   | _=>first | (rw[D.toP] at h;cases h;done) | (cases he;done)
 | .dic _ _,_,hd,_,_=>by rw[D.pure] at hd;cases hd
 | .scr _,_,hd,_,_=>by rw[D.pure] at hd;cases hd
 | .obj _,_,hd,_,_=>by rw[D.pure] at hd;cases hd
theorem Zao:∀ {ds es:List D},D.pureAll ds=true→D.pureAll es=true→D.toPs ds=D.toPs es→ds=es
 | [],[],_,_,_=>rfl
 | [],_ :: _,_,_,h=>by rw[D.toPs,D.toPs] at h;cases h
 | _ :: _,[],_,_,h=>by rw[D.toPs,D.toPs] at h;cases h
 | d :: r,e :: t,hd,he,h=>by
   rw[D.pureAll,Bool.and_eq_true] at hd he
   rw[D.toPs,D.toPs] at h
   injection h with h1 h2
   rw[Zfy hd.1 he.1 h1,Zao hd.2 he.2 h2]
end
theorem ZgZ {ds:List PyData}{n:Nat}(h:∀d∈ds,d.depth≤n):PyData.depthAll ds≤n:=by
 induction ds with
 | nil=>simp[PyData.depthAll]
 | cons d r ih=>rw[PyData.depthAll];have:=h d (by simp);have:=ih fun x hx=>h x (List.mem_cons_of_mem _ hx);omega
theorem Q8 {le:D→D→Bool}:∀(xs:List D)(x:D),xs.foldl (fun a b=>if le a b=true then b else a) x∈x :: xs
 | [],x=>by simp
 | y :: r,x=>by
   rw[List.foldl_cons]
   have:=Q8 (le:=le) r (if le x y=true then y else x)
   rcases List.mem_cons.mp this with h | h
   · rw[h];split <;> simp
   · exact List.mem_cons_of_mem _ (List.mem_cons_of_mem _ h)
theorem Q9 {le:PyData→PyData→Bool}:∀(xs:List D)(x:D),(xs.foldl (fun a b=>if le a.toP b.toP=true then b else a) x).toP=(xs.map D.toP).foldl (fun a b=>if le a b=true then b else a) x.toP
 | [],x=>rfl
 | y :: r,x=>by
   rw[List.foldl_cons,List.map_cons,List.foldl_cons,Q9 r]
   congr 1
   split <;> rfl
theorem ZdB:∀ {l:List D},D.pureAll l=true→∀y∈l,y.pure=true
 | [],_,y,hy=>by cases hy
 | x :: t,hh,y,hy=>by
   rw[D.pureAll,Bool.and_eq_true] at hh
   rcases List.mem_cons.mp hy with e | hy
   · rw[e];exact hh.1
   · exact ZdB hh.2 y hy
theorem ZeY (hc:X.calm=true)(hu:X.A.units+100<cLine)(mx:Bool):CallR X (.builtin (if mx=true then "max" else "min")) (rBi X cl (if mx=true then .max1 else .min1)):=by
 intro pins s σ H xs us Q I r ⟨S,P,ds,z,rs,rp,h,q⟩
 have h:X6 mx S ds=some z:=by cases mx <;> exact h
 unfold X6 at h
 split at h <;> try cases h
 next d=>
 obtain⟨y,rfl,ry⟩:=rep1 rp
 split at h
 · next x xs' hs=>
   split at h
   · next hokl=>
     obtain⟨hok,hnl⟩:=hokl
     unfold Wg at hok
     simp only[Bool.and_eq_true,Bool.or_eq_true,List.all_eq_true,decide_eq_true_eq] at hok
     obtain⟨⟨⟨hpure,hal⟩,hk⟩,hdep⟩:=hok
     obtain⟨a,vs,rfl,ha,qs⟩:=Yl rs ry hs
     have hp1:=ZdB hpure
     have al:PySem.W.AlikeAll (D.toPs (x :: xs')):=by
      rw[Um]
      refine⟨fun u hu' v hv=>?_,fun u hu'=>?_⟩
      · obtain⟨p,hp,rfl⟩:=List.mem_map.mp hu'
        obtain⟨p',hp',rfl⟩:=List.mem_map.mp hv
        exact hal _ hp _ hp'
      · obtain⟨p,hp,rfl⟩:=List.mem_map.mp hu'
        rcases hk with hk | hk
        · have:=hk p hp;cases p <;> simp_all [Za5,D.toP]
        · have:=hk p hp;have:=hp1 p hp;cases p <;> simp_all [ZaS,D.toP,D.pure]
     have dep:PyData.depthAll (D.toPs (x :: xs'))≤20:=ZgZ fun u hu'=>by
      rw[Um] at hu'
      obtain⟨p,hp,rfl⟩:=List.mem_map.mp hu'
      exact hdep p hp
     have dps:=Wa rs (x :: xs') hpure qs
     have zmem:z∈x :: xs':=by
      cases h
      unfold bestOf
      split
      · exact Q8 (le:=fun a b=>PySem.W.dataLt a.toP b.toP) xs' x
      · exact Q8 (le:=fun a b=>PySem.W.dataLt b.toP a.toP) xs' x
     have ez:z.toP=if mx=true then PySem.W.maxD x.toP (D.toPs xs') else PySem.W.minD x.toP (D.toPs xs'):=by
      cases h
      unfold bestOf
      rw[Um]
      split
      · exact Q9 (le:=fun a b=>PySem.W.dataLt a b) xs' x
      · exact Q9 (le:=fun a b=>PySem.W.dataLt b a) xs' x
     have zp:=hp1 z zmem
     have fin:∀(its:List Value),Vals vs its→∀(i:Nat)(v:Value)(h':Heap)(tk:Nat)(bs:List Addr),its.toArray[i]?=some v→Reads h' v z.toP bs→(∀b o,s.heap.get? b=some o→h'.get? b=some o)→EP X pins σ Q v { s with heap:=h',toks:=tk }:=by
      intro its rv i v h' tk bs hi rd hk'
      have hi:its[i]?=some v:=by simpa using hi
      have il:i<vs.length:=by rw[rv.length];exact(List.getElem?_eq_some_iff.mp hi).1
      obtain⟨d',e1,r1⟩:=qs.get' (List.getElem?_eq_getElem il)
      have rvi:RelV vs[i] v:=by
       have:∀ {ws:List V} {us:List Value} (j:Nat) (x:V) (u:Value),Vals ws us→ws[j]?=some x→us[j]?=some u→RelV x u:=by
        intro ws us j x u h
        induction h generalizing j with
        | nil=>intro z;simp at z
        | cons a _ ih=>
          intro z1 z2
          cases j with
          | zero=>simp at z1 z2;subst z1 z2;exact a
          | succ j=>exact ih j (by simpa using z1) (by simpa using z2)
       exact this i _ _ rv (List.getElem?_eq_getElem il) hi
      have dm:d'∈x :: xs':=List.mem_of_getElem? e1
      obtain⟨as,rd2⟩:=Z7 I (Zcz rs d' (hp1 d' dm) r1) rvi
      have rd3:=Reads.keeps hk' rd2
      have e2:d'.toP=z.toP:=by rw[← SeqAt.readOf_plain (XU d' (hp1 d' dm)) rd3,SeqAt.readOf_plain (XU z zp) rd]
      have e3:d'=z:=Zfy (hp1 d' dm) zp e2
      subst e3
      refine⟨vs[i],H,I.kept hk',rvi,q _ _ (Zt rs r1 ?_)⟩
      have hp':=hp1 d' dm
      cases h
      cases hb:bestOf mx x xs' with
      | lst _=>rw[hb] at hnl;cases hnl
      | dic _ _=>rw[hb,D.pure] at hp';cases hp'
      | _=>rfl
     have hun:X.A.units+1+PyData.depthAll (D.toPs (x :: xs'))<cLine:=by omega
     have e0:D.toPs (x :: xs')=x.toP :: D.toPs xs':=by rw[D.toPs]
     rw[Vals.ref1 r]
     rcases ha with ha | ha
     · obtain⟨its,rv,pl,hz⟩:=I.list (SqL.of ha)
       obtain⟨as,rd⟩:=Dp.readsAll I _ _ its dps rv
       rw[e0] at rd al hun
       cases mx with
       | true=>exact PySem.W.max_list_data (I.ok.hd hc) pl.isList (by simpa using rd) al hun fun i v h' tk bs a1 a2 a3=>fin its rv i v h' tk bs a1 (by rw[ez];exact a2) a3
       | false=>exact PySem.W.min_list_data (I.ok.hd hc) pl.isList (by simpa using rd) al hun fun i v h' tk bs a1 a2 a3=>fin its rv i v h' tk bs a1 (by rw[ez];exact a2) a3
     · obtain⟨its,rv,pl,hz⟩:=I.tuple ha.t
       obtain⟨as,rd⟩:=Dp.readsAll I _ _ its dps rv
       rw[e0] at rd al hun
       cases mx with
       | true=>exact PySem.W.max_tuple_data (I.ok.hd hc) pl (by simpa using rd) al hun fun i v h' tk bs a1 a2 a3=>fin its rv i v h' tk bs a1 (by rw[ez];exact a2) a3
       | false=>exact PySem.W.min_tuple_data (I.ok.hd hc) pl (by simpa using rd) al hun fun i v h' tk bs a1 a2 a3=>fin its rv i v h' tk bs a1 (by rw[ez];exact a2) a3
   · cases h
 · cases h
end
end Sw
namespace Sw
open PySem PySem.Spec PyProof.Rows L2
section
variable {Γ:Gam}{cl:ClsT}{k:Nat}{X:Cx}{c:Cd}
def rMl (X:Cx)(cl:ClsT)(m:Ml):V→List V→Hp→VK→Prop:=fun x xs H Q=>∃S P dx ds z,RS X.K cl H S P∧Rep X.K H S P x dx∧Zb X.K H S P xs ds∧mlTy m S dx=true∧mlD m S dx ds=some z∧∀v H',lift X.K cl false (Just z S) H S P v H'→Q v H'
theorem UN {H:Hp}{S:Za}{P:Addr→Prop}{v:V}{z:D}(rs:RS X.K cl H S P)(r:Rep X.K H S P v z):lift X.K cl false (Just z S) H S P v H:=Zw (Le.refl rs) rs r ⟨rfl,rfl⟩ (.inr rfl)
theorem UR {m:Ml}{S:Za}{x:D}{ds:List D}{z:D}(h:mlD m S x ds=some z):(∃a,ds=[a])∨∃a b,ds=[a,b]:=by
 rcases ds with _ |⟨a,_ |⟨b,_ |⟨d,r⟩⟩⟩
 · cases m <;> cases h
 · exact .inl ⟨a,rfl⟩
 · exact .inr ⟨a,b,rfl⟩
 · cases m <;> cases h
theorem Qa {H:Hp}{S:Za}{P:Addr→Prop}{pins:List (Addr×Obj)}{σ:L2.St}{s:Shared}{x y:V}{dx dy:D}{ds:List D}{p:PyData}{us:Value}(rs:RS X.K cl H S P)(I:Inv X pins σ H s)(rx:Rep X.K H S P x dx)(ry:Rep X.K H S P y dy)(rv:RelV y us)
  (h1:seqD S dx=some ds) (h2:Zl S dy=some p) (h3:D.pureAll ds=true) :
  p.plain=true∧PyData.plainAll (D.toPs ds)=true∧(∃bs,Reads s.heap us p bs)∧∃a its,x=.ref a∧(∃as,ReadsAll s.heap its (D.toPs ds) as)∧its.length≤sizeLine∧((∃vs,H a=some (.lst vs)∧s.heap.IsList a its.toArray)∨s.heap.IsTuple a its.toArray):=by
 obtain⟨dp,pl⟩:=XW rs ry h2
 obtain⟨bs,rd⟩:=Z7 I dp rv
 obtain⟨a,vs,rfl,ha,qs⟩:=Yl rs rx h1
 have dps:=Wa rs ds h3 qs
 refine⟨pl,ZQ ds h3,⟨bs,rd⟩,a,?_⟩
 rcases ha with ha | ha
 · obtain⟨its,rv,hl,hz⟩:=I.list (SqL.of ha)
   exact⟨its,rfl,Dp.readsAll I _ _ its dps rv,by rw[← rv.length];exact hz,.inl ⟨vs,ha,hl.isList⟩⟩
 · obtain⟨its,rv,hl,hz⟩:=I.tuple ha.t
   exact⟨its,rfl,Dp.readsAll I _ _ its dps rv,by rw[← rv.length];exact hz,.inr hl⟩
theorem Zi9 (hu:X.A.units+100<cLine):MtR X "list.count" (rMl X cl .lcount):=by
 intro pins s σ H x xs v us Q I rx rv ⟨S,P,dx,ds,z,rs,r1,rr,ty,h,hQ⟩
 rcases UR h with ⟨y,rfl⟩ |⟨y,w,rfl⟩
 · change countM S dx y=some z at h
   unfold countM at h
   split at h
   · next es p e2 e3=>
     split at h
     · next hz=>
       cases h
       obtain⟨yv,rfl,ry⟩:=rep1 rr
       obtain⟨u,rfl,ru⟩:=vals1 rv
       obtain⟨pl,pls,⟨bs,rd⟩,a,its,rfl,⟨as,rds⟩,hl,at_⟩:=Qa rs I r1 ry ru e2 e3 hz.1
       cases rx
       rcases at_ with ⟨vs,_,at_⟩ | at_
       · exact SeqAt.count_list_data at_ (by simpa using rds) rd pls pl (by omega) ⟨.int _,H,I.tok _,⟨_,rfl⟩,hQ _ _ (UN rs (.int _))⟩
       · exfalso
         obtain⟨b,ws,e1,e4,_⟩:=ZM rs r1 (Option.isSome_iff_exists.mp (show(peel S dx).isSome=true from ty)).choose_spec
         cases e1
         obtain⟨its2,_,hl2,_⟩:=I.list (SqL.of e4)
         obtain⟨o,g1,g2,_⟩:=at_
         obtain⟨o',g3,g4,_⟩:=hl2.isList
         rw[g1] at g3;cases g3
         rw[g2] at g4
         exact absurd g4 (by decide)
     · cases h
   · cases h
 · cases h
theorem Zja (hu:X.A.units+100<cLine):MtR X "list.index" (rMl X cl .lindex):=by
 intro pins s σ H x xs v us Q I rx rv ⟨S,P,dx,ds,z,rs,r1,rr,ty,h,hQ⟩
 rcases UR h with ⟨y,rfl⟩ |⟨y,w,rfl⟩
 · change YA S dx y=some z at h
   unfold YA at h
   split at h
   · next es p e2 e3=>
     split at h
     · next hz=>
       cases hf:ZaE (D.toPs es) p with
       | none=>rw[hf] at h;cases h
       | some j=>
       rw[hf] at h
       cases h
       obtain⟨yv,rfl,ry⟩:=rep1 rr
       obtain⟨u,rfl,ru⟩:=vals1 rv
       obtain⟨pl,pls,⟨bs,rd⟩,a,its,rfl,⟨as,rds⟩,hl,at_⟩:=Qa rs I r1 ry ru e2 e3 hz.1
       cases rx
       obtain⟨b,ws,e1,e4,_⟩:=ZM rs r1 (Option.isSome_iff_exists.mp (show(peel S dx).isSome=true from ty)).choose_spec
       cases e1
       obtain⟨its2,rv2,hl2,_⟩:=I.list (SqL.of e4)
       rcases at_ with ⟨vs,_,at_⟩ | at_
       · have at0:=at_
         obtain⟨⟨c0,dd,data,sl⟩,ho,hc,n,hd⟩:=at_
         simp only at hc hd
         subst hc hd
         have len:=SeqAt.len_at (vs:=its.toArray) (by simpa using rds)
         unfold ZaE at hf
         rw[List.findIdx?_eq_some_iff_getElem] at hf
         obtain⟨hj,hit,hno⟩:=hf
         have rds':ReadsAll s.heap its.toArray.toList (D.toPs es) as:=by simpa using rds
         have hjs:j<its.toArray.size:=by rw[len];exact hj
         have at1:∀(m:Nat)(hm:m<its.toArray.size)(hm2:m<(D.toPs es).length),SeqAt.readOf s.heap its.toArray[m]=(D.toPs es)[m]:=fun m hm hm2=>by
          obtain⟨_,e⟩:=SeqAt.readOf_at rds' pls m hm
          exact e
         have sz:its.toArray.size≤sizeLine:=by simpa using hl
         have sl2:=sizeLine_eq
         refine call_meets F.slot_list_index ⟨_,ho,rfl⟩ F.entry_list_index (F.args_list_index_2 _ _) (SeqAt.list_indexAt a its.toArray n dd sl u (fun z=>PyData.eqv (SeqAt.readOf s.heap z) p) j hjs (by omega) ?_ ?_) ⟨ho,SeqAt.items_plain rds' rd pls pl (by omega),?_⟩
         · show PyData.eqv (SeqAt.readOf s.heap its.toArray[j]) p=true
           rw[at1 j hjs hj]
           exact hit
         · intro m hm hmj
           have hm2:m<(D.toPs es).length:=by rw[← len];exact hm
           show PyData.eqv (SeqAt.readOf s.heap its.toArray[m]) p=false
           rw[at1 m hm hm2]
           simpa using hno m hmj
         · exact⟨.int _,H,I.tok _,⟨_,rfl⟩,hQ _ _ (UN rs (.int _))⟩
       · exfalso
         obtain⟨o,g1,g2,_⟩:=at_
         obtain⟨o',g3,g4,_⟩:=hl2.isList
         rw[g1] at g3;cases g3
         rw[g2] at g4
         exact absurd g4 (by decide)
     · cases h
   · cases h
 · cases h
theorem Zfq {H:Hp}{S:Za}{P:Addr→Prop}{v:V}{es:List D}(r:Rep X.K H S P v (.tup es)):∃a xs,v=.ref a∧TupF X.K H a xs∧Zb X.K H S P xs es:=by
 cases r with
 | tup e q=>exact⟨_,_,rfl,e,q⟩
theorem ZhC (hu:X.A.units+100<cLine):MtR X "tuple.index" (rMl X cl .tindex):=by
 intro pins s σ H x xs v us Q I rx rv ⟨S,P,dx,ds,z,rs,r1,rr,ty,h,hQ⟩
 rcases UR h with ⟨y,rfl⟩ |⟨y,w,rfl⟩
 · change YA S dx y=some z at h
   unfold YA at h
   split at h
   · next es p e2 e3=>
     split at h
     · next hz=>
       cases hf:ZaE (D.toPs es) p with
       | none=>rw[hf] at h;cases h
       | some j=>
       rw[hf] at h
       cases h
       obtain⟨yv,rfl,ry⟩:=rep1 rr
       obtain⟨u,rfl,ru⟩:=vals1 rv
       obtain⟨pl,pls,⟨bs,rd⟩,a,its,rfl,⟨as,rds⟩,hl,at_⟩:=Qa rs I r1 ry ru e2 e3 hz.1
       cases rx
       have tt:∃es',dx=.tup es':=by
        cases dx <;> first | exact⟨_,rfl⟩ | cases ty
       obtain⟨es',rfl⟩:=tt
       obtain⟨b,ws,e1,e4,_⟩:=Zfq r1
       cases e1
       obtain⟨its2,rv2,hl2,_⟩:=I.tuple e4.t
       rcases at_ with at_ | at_
       rotate_left
       · have at0:=at_
         obtain⟨⟨c0,dd,data,sl⟩,ho,hc,n,hd⟩:=at_
         simp only at hc hd
         subst hc hd
         have len:=SeqAt.len_at (vs:=its.toArray) (by simpa using rds)
         unfold ZaE at hf
         rw[List.findIdx?_eq_some_iff_getElem] at hf
         obtain⟨hj,hit,hno⟩:=hf
         have rds':ReadsAll s.heap its.toArray.toList (D.toPs es) as:=by simpa using rds
         have hjs:j<its.toArray.size:=by rw[len];exact hj
         have at1:∀(m:Nat)(hm:m<its.toArray.size)(hm2:m<(D.toPs es).length),SeqAt.readOf s.heap its.toArray[m]=(D.toPs es)[m]:=fun m hm hm2=>by
          obtain⟨_,e⟩:=SeqAt.readOf_at rds' pls m hm
          exact e
         have sz:its.toArray.size≤sizeLine:=by simpa using hl
         have sl2:=sizeLine_eq
         refine call_meets F.slot_tuple_index ⟨_,ho,rfl⟩ F.entry_tuple_index (F.args_tuple_index_2 _ _) (TI.tuple_indexAt a its.toArray n dd sl u (fun z=>PyData.eqv (SeqAt.readOf s.heap z) p) j hjs ?_ ?_) ⟨ho,SeqAt.items_plain rds' rd pls pl (by omega),?_⟩
         · show PyData.eqv (SeqAt.readOf s.heap its.toArray[j]) p=true
           rw[at1 j hjs hj]
           exact hit
         · intro m hm hmj
           have hm2:m<(D.toPs es).length:=by rw[← len];exact hm
           show PyData.eqv (SeqAt.readOf s.heap its.toArray[m]) p=false
           rw[at1 m hm hm2]
           simpa using hno m hmj
         · exact⟨.int _,H,I.tok _,⟨_,rfl⟩,hQ _ _ (UN rs (.int _))⟩
       · exfalso
         obtain⟨vs9,_,o,g1,g2,_⟩:=at_
         obtain⟨o',g3,g4,_⟩:=hl2
         rw[g1] at g3;cases g3
         rw[g2] at g4
         exact absurd g4 (by decide)
     · cases h
   · cases h
 · cases h
theorem Qh {es:List Expr}{as:Ms}{x:Expr}(hk:chks c as (x :: es)=true):Zi x=true∧∃r,chks c r es=true:=by
 cases as with
 | nil=>unfold chks at hk;cases hk
 | cons a r=>unfold chks at hk;simp only[Bool.and_eq_true] at hk;exact⟨hk.1.1,r,hk.2⟩
theorem Vq {es:List Expr}{as:Ms}{x:Expr}{cp:Pos}(hk:chks c as (x :: es)=true)(hn:es.length≤20):((backTo cp (starEach (x :: es) X.env)).all (fun x=>!x.1) && (backToKw cp (keywordEach [] X.env)).all (fun x=>x.1.isSome)
  && decide ((x :: es).length+([]:List Keyword).length+(if([]:List Keyword).isEmpty then 0 else 1)<30))=true:=by
 rw[Vl _ (ZV c as (x :: es) X.env cp hk)]
 show(true && true && decide _)=true
 rw[Bool.true_and,Bool.true_and]
 apply decide_eq_true
 simp only[List.length_cons,List.length_nil,List.isEmpty_nil,if_true]
 omega
theorem ZbJ {m:Ml}{T id:String}{eo x:Expr}{ap cp:Pos}{es:List Expr}{o:M}{as:Ms}(hb:Yo eo=true)(hl:(ap.endLine == cp.line)=true)(hn:es.length≤20)(ho:DE Γ cl X eo o)(hk:chks c as (x :: es)=true)(ha:DAs Γ cl X (x :: es) as)
  (pa:PlainAttrs T) (slot:Slot T (ZaP m) id) (hty:typeOf (.builtin id)=pure (.type "method_descriptor")) (hm:MtR X id (rMl X cl m)) (ty:∀S P H v d,RS X.K cl H S P→Rep X.K H S P v d→mlTy m S d=true→tyV X.K T v H) (keep:∀S S' H H' P d v,Le H S P H' S'→RS X.K cl H S P→Rep X.K H S P v d→mlTy m S d=true→(∃ds z,mlD m S' d ds=some z)→mlTy m S' d=true) :
  DE Γ cl X (.Call (.Attribute eo (ZaP m) ap) (x :: es) [] cp) (.tel m o as):=by
 intro σ H ρ S P Q rs re hw
 unfold wE at hw
 obtain⟨hp,r,hr⟩:=Qh hk
 refine Zu (pe_bm pa slot hty hm c_e c_a (YC hb) (Vq hk hn) hl (Zg hp) (ZV c r es _ _ hr)) ?_
 refine Ze (ho σ H ρ S P _ rs re hw) fun v H1 ⟨d,S1,le1,rs1,r1,⟨hs,q⟩,_⟩=>?_
 refine⟨ty _ _ _ _ _ rs1 r1 hs,Yc (ha σ H1 ρ S1 P _ rs1 (re.le rs le1) q) fun vs H2 ⟨ds,S2,le2,rs2,rr,q2⟩=>?_⟩
 have q2:optD (mlD m S2 d ds) fun z=>Q z S2:=q2
 cases e:mlD m S2 d ds with
 | none=>rw[e] at q2;exact q2.elim
 | some w=>
   rw[e] at q2
   exact⟨S2,P,d,ds,w,rs2,Rep.le rs1 le2 _ r1,rr,keep _ _ _ _ _ _ _ le2 rs1 r1 hs ⟨ds,w,e⟩,e,fun w' H3 l=>Ye (le1.trans le2) (Yu l (fun d S' ⟨e1,e2⟩=>by subst e1 e2;exact q2) fun z=>by cases z)⟩
theorem ZjG {x:Expr}{cp:Pos}(hp:Zi x=true):backTo cp (starEach [x] X.env)=[(false,eval x X.env)]:=by rw[Zg hp];rfl
theorem Zd1 {x y:Expr}{cp:Pos}(hp:Zi x=true)(hq:Zi y=true):backTo cp (starEach [x,y] X.env)=[(false,eval x X.env),(false,eval y X.env)]:=by rw[Zg hp,Zg hq];rfl
theorem Zdq {H:Hp}{S:Za}{P:Addr→Prop}{kvs:List (Key×D)}{vs:List V}{kk:Key}{d0:D}{v0:V}(hl:vs.length=kvs.length)(q:Zb X.K H S P vs (kvs.map (·.2)))(r0:Rep X.K H S P v0 d0) :
  Rep X.K H S P ((valV ((kvs.map (·.1)).zip vs) kk).getD v0) ((Xv kvs kk).getD d0):=by
 rcases Zae (k:=kk) hl q with ⟨e1,e2⟩ |⟨d,v,e1,e2,r⟩
 · rw[e1,e2];exact r0
 · rw[e1,e2];exact r
theorem ZkJ (F:XF Γ cl k X){eo x:Expr}{ap cp:Pos}{o a:M}(hb:Yo eo=true)(hl:(ap.endLine == cp.line)=true)(hp:Zi x=true)(ho:DE Γ cl X eo o)(ha:DE Γ cl X x a)(hk:chks c (.cons a .nil) [x]=true):DE Γ cl X (.Call (.Attribute eo "get" ap) [x] [] cp) (.tel .get1 o (.cons a .nil)):=by
 intro σ H ρ S P Q rs re hw
 unfold wE wEs wEs at hw
 have hu:=F.hu
 refine Zu (pe_dget1 (by omega) c_e c_e ⟨YC hb,Vq hk (by simp),hl,ZjG hp⟩) ?_
 refine Ze (ho σ H ρ S P _ rs re hw) fun v H1 ⟨d,S1,le1,rs1,r1,⟨hs,q⟩,_⟩=>?_
 obtain⟨kvs0,h0⟩:=Option.isSome_iff_exists.mp (show(dicD S1 d).isSome=true from hs)
 obtain⟨p,vs0,rfl,_,hh0,_⟩:=XH rs1 r1 h0
 refine⟨p,rfl,.inl ⟨_,hh0⟩,?_⟩
 refine Ze (ha σ H1 ρ S1 P _ rs1 (re.le rs le1) q) fun w H2 ⟨y,S2,le2,rs2,r2,q2,_⟩=>?_
 have q2:optD (getM S2 d y .non) fun z=>Q z S2:=q2
 unfold getM at q2
 split at q2
 · next kvs kk e1 e2=>
   obtain⟨p',vs,e3,hl',hh,rr⟩:=XH rs2 (Rep.le rs1 le2 _ r1) e1
   cases e3
   have ek:=Wo r2 e2
   subst ek
   exact⟨_,Vn hh,Zw (le1.trans le2) rs2 (Zdq hl' rr .non) q2 (.inr rfl)⟩
 · exact q2.elim
theorem ZkK (F:XF Γ cl k X){eo x y:Expr}{ap cp:Pos}{o a b:M}(hb:Yo eo=true)(hl:(ap.endLine == cp.line)=true)(hp:Zi x=true)(hp2:Zi y=true)(ho:DE Γ cl X eo o)(ha:DE Γ cl X x a)(hbb:DE Γ cl X y b)(hk:chks c (.cons a (.cons b .nil)) [x,y]=true) :
  DE Γ cl X (.Call (.Attribute eo "get" ap) [x,y] [] cp) (.tel .get2 o (.cons a (.cons b .nil))):=by
 intro σ H ρ S P Q rs re hw
 unfold wE wEs wEs wEs at hw
 have hu:=F.hu
 refine Zu (pe_dget2 (by omega) c_e c_e c_e ⟨YC hb,Vq hk (by simp),hl,Zd1 hp hp2⟩) ?_
 refine Ze (ho σ H ρ S P _ rs re hw) fun v H1 ⟨d,S1,le1,rs1,r1,⟨hs,q⟩,_⟩=>?_
 obtain⟨kvs0,h0⟩:=Option.isSome_iff_exists.mp (show(dicD S1 d).isSome=true from hs)
 obtain⟨p,vs0,rfl,_,hh0,_⟩:=XH rs1 r1 h0
 refine⟨p,rfl,.inl ⟨_,hh0⟩,?_⟩
 refine Ze (ha σ H1 ρ S1 P _ rs1 (re.le rs le1) q) fun w H2 ⟨y,S2,le2,rs2,r2,q2,_⟩=>?_
 refine Ze (hbb σ H2 ρ S2 P _ rs2 ((re.le rs le1).le rs1 le2) q2) fun w3 H3 ⟨y3,S3,le3,rs3,r3,q3,_⟩=>?_
 have q3:optD (getM S3 d y y3) fun z=>Q z S3:=q3
 unfold getM at q3
 split at q3
 · next kvs kk e1 e2=>
   obtain⟨p',vs,e3,hl',hh,rr⟩:=XH rs3 (Rep.le rs1 (le2.trans le3) _ r1) e1
   cases e3
   have ek:=Wo r2 e2
   subst ek
   exact⟨_,Vn hh,Zw ((le1.trans le2).trans le3) rs3 (Zdq hl' rr r3) q3 (.inr rfl)⟩
 · exact q3.elim
theorem ZgX (G:XF Γ cl k X){m:Ml}{eo x:Expr}{ap cp:Pos}{es:List Expr}{o:M}{as:Ms}(hb:Yo eo=true)(hl:(ap.endLine == cp.line)=true)(hn:es.length≤20)(ho:DE Γ cl X eo o)(hk:chks c as (x :: es)=true)(hg:match m with | .get1=>False | .get2=>False | .tindex=>False | _=>True)(ha:DAs Γ cl X (x :: es) as) :
  DE Γ cl X (.Call (.Attribute eo (ZaP m) ap) (x :: es) [] cp) (.tel m o as):=by
 have tyl:∀(m:Ml),(∀S d,mlTy m S d=(peel S d).isSome)→∀S P H v d,RS X.K cl H S P→Rep X.K H S P v d→mlTy m S d=true→tyV X.K "list" v H:=fun m he S P H v d rs r h=>by
  rw[he] at h
  obtain⟨ds,hp⟩:=Option.isSome_iff_exists.mp h
  obtain⟨a,vs,rfl,ha,_⟩:=ZM rs r hp
  exact .inl ⟨rfl,vs,SqL.of ha⟩
 have keepL:∀(f:Za→D→D→Option D),(∀S d y z,f S d y=some z→∃ds,seqD S d=some ds)→∀S S' H H' P d v,Le H S P H' S'→RS X.K cl H S P→Rep X.K H S P v d→(peel S d).isSome=true→(∃y z,f S' d y=some z)→(peel S' d).isSome=true:=by
  intro f hf S S' H H' P d v le rs r h ⟨y,z,e⟩
  obtain⟨ds,e2⟩:=hf _ _ _ _ e
  cases d with
  | lst _=>rfl
  | obj a=>exact Option.isSome_iff_exists.mpr ⟨ds,e2⟩
  | _=>cases h
 have fC:∀S d y z,countM S d y=some z→∃ds,seqD S d=some ds:=fun S d y z e=>by
  unfold countM at e
  split at e
  · next ds _ h _=>exact⟨ds,h⟩
  · cases e
 have fP:∀S d y z,YA S d y=some z→∃ds,seqD S d=some ds:=fun S d y z e=>by
  unfold YA at e
  split at e
  · next ds _ h _=>exact⟨ds,h⟩
  · cases e
 cases m with
 | get1=>exact hg.elim
 | get2=>exact hg.elim
 | tindex=>exact hg.elim
 | lindex=>
   refine ZbJ (m:=.lindex) hb hl hn ho hk ha F.plainAttrs_list F.slot_list_index F.type_list_index (Zja G.hu) (tyl .lindex fun _ _=>rfl) fun S S' H H' P d v le rs r h ⟨ds,z,e⟩=>?_
   rcases UR e with ⟨y,rfl⟩ |⟨y,w,rfl⟩
   · exact keepL YA fP S S' H H' P d v le rs r h ⟨y,z,e⟩
   · cases e
 | lcount=>
   refine ZbJ (m:=.lcount) hb hl hn ho hk ha F.plainAttrs_list F.slot_list_count F.type_list_count (Zi9 G.hu) (tyl .lcount fun _ _=>rfl) fun S S' H H' P d v le rs r h ⟨ds,z,e⟩=>?_
   rcases UR e with ⟨y,rfl⟩ |⟨y,w,rfl⟩
   · exact keepL countM fC S S' H H' P d v le rs r h ⟨y,z,e⟩
   · cases e
def tBMt (K:PySem.W.Frag)(r:V→List V→Hp→VK→Prop)(to:TE)(t:TA):TE:=fun σ H Q=>to σ H fun x H1=>(∃a xs,x=.ref a∧TupF K H1 a xs)∧t σ H1 fun vs H2=>r x vs H2 Q
theorem ZnJ {name:Str}{id:String}{r:V→List V→Hp→VK→Prop}{o e:Expr}{es:List Expr}{to:TE}{t:TA}{apos cpos:Pos}(slot:Slot "tuple" name id) (hty:typeOf (.builtin id)=pure (.type "method_descriptor")) (hm:MtR X id r) (ho:PE X o to) (ha:PA X (e :: es) t)
  (hbase:attributeBase o name X.env (eval o X.env)=eval o X.env)
  (hfew:((backTo cpos (starEach (e :: es) X.env)).all (fun x=>!x.1) && (backToKw cpos (keywordEach [] X.env)).all (fun x=>x.1.isSome)
   && decide ((e :: es).length+([]:List Keyword).length+(if([]:List Keyword).isEmpty then 0 else 1)<30))=true)
  (hline:(apos.endLine == cpos.line)=true) (hs:starEach (e :: es) X.env=(false,eval e X.env) :: starEach es X.env) (hplain:(backTo cpos (starEach es X.env)).any (·.1)=false) :
  PE X (.Call (.Attribute o name apos) (e :: es) [] cpos) (tBMt X.K r to t):=by
 refine⟨fun pins s σ H Q I h=>?_⟩
 refine wpAny_Call_method_late hbase hfew hline rfl (thn (ho.run pins s σ H _ I h) fun v s1 ⟨x,H1,I1,r1,⟨a,xs,e1,ob,e2,hn⟩,q1⟩=>?_)
 subst e1
 have r1':=r1
 cases r1
 obtain⟨ho1,_,its,_,o',g1,g2,_⟩:=(show ObjOk X.prog X.w H1 s1.heap a (.frz ob (.tup xs)) from I1.hok a _ e2)
 rw[ho1] at g1;cases g1
 refine⟨"tuple",id,PySem.F.plainAttrs_tuple,slot,hty,⟨_,ho1,g2⟩,fun b e=>by cases e;exact⟨_,ho1,hn⟩,?_⟩
 have hA:=ha.run cpos pins s1 σ H1 _ I1 q1
 rw[hs] at hA ⊢
 refine Calls.callWith_builtin (by show(false || (backTo cpos (starEach es X.env)).any (·.1))=false;rw[hplain] <;> rfl) (Calls.evalArgs_plain ?_)
 exact thn hA fun us s2 ⟨vs,H2,I2,r2,q2⟩=>hm pins s2 σ H2 _ vs _ us Q I2 r1' r2 q2
theorem ZgY (G:XF Γ cl k X){eo x:Expr}{ap cp:Pos}{es:List Expr}{o:M}{as:Ms}(hb:Yo eo=true)(hl:(ap.endLine == cp.line)=true)(hn:es.length≤20)(ho:DE Γ cl X eo o)(hk:chks c as (x :: es)=true)(ha:DAs Γ cl X (x :: es) as) :
  DE Γ cl X (.Call (.Attribute eo "index" ap) (x :: es) [] cp) (.tel .tindex o as):=by
 intro σ H ρ S P Q rs re hw
 unfold wE at hw
 obtain⟨hp,r,hr⟩:=Qh hk
 refine Zu (ZnJ PySem.F.slot_tuple_index PySem.F.type_tuple_index (ZhC (cl:=cl) G.hu) c_e c_a (YC hb) (Vq hk hn) hl (Zg hp) (ZV c r es _ _ hr)) ?_
 refine Ze (ho σ H ρ S P _ rs re hw) fun v H1 ⟨d,S1,le1,rs1,r1,⟨hs,q⟩,_⟩=>?_
 have tt:∃es',d=.tup es':=by
  cases d <;> first | exact⟨_,rfl⟩ | cases hs
 obtain⟨es',rfl⟩:=tt
 obtain⟨a,xs,e1,e2,_⟩:=Zfq r1
 refine⟨⟨a,xs,e1,e2⟩,Yc (ha σ H1 ρ S1 P _ rs1 (re.le rs le1) q) fun vs H2 ⟨ds,S2,le2,rs2,rr,q2⟩=>?_⟩
 have q2:optD (mlD .tindex S2 (.tup es') ds) fun z=>Q z S2:=q2
 cases e:mlD .tindex S2 (.tup es') ds with
 | none=>rw[e] at q2;exact q2.elim
 | some w=>
   rw[e] at q2
   exact⟨S2,P,.tup es',ds,w,rs2,Rep.le rs1 le2 _ r1,rr,rfl,e,fun w' H3 l=>Ye (le1.trans le2) (Yu l (fun d S' ⟨e1,e2⟩=>by subst e1 e2;exact q2) fun z=>by cases z)⟩
def rMv (X:Cx)(cl:ClsT)(m:Mu):V→List V→Hp→VK→Prop:=fun x xs H Q=>∃S P a ds dxs y ds',RS X.K cl H S P∧x=.ref a∧S a=some (.lst ds)∧Zb X.K H S P xs dxs∧muD m S ds dxs=some (y,ds')∧
 ∀v H',Le H S P H' (sput S a (.lst ds'))→RS X.K cl H' (sput S a (.lst ds')) P→Rep X.K H' (sput S a (.lst ds')) P v y→Q v H'
theorem Znt:MtR X "list.pop" (rMv X cl .pop):=by
 intro pins s σ H x xs v us Q I rx rv ⟨S,P,a,ds,dxs,y,ds',rs,e1,e2,rr,h,hQ⟩
 obtain⟨np,zs,hz,q⟩:=rs.own a _ e2
 change popM ds dxs=_ at h
 unfold popM at h
 split at h <;> try cases h
 have e0:xs=[]:=by cases rr;rfl
 subst e0
 split at h <;> try cases h
 next hy=>
 obtain⟨w,hw,r⟩:=q.get hy
 have q2:Zb X.K H S P zs.dropLast ds.dropLast:=by
  rw[List.dropLast_eq_take,List.dropLast_eq_take,q.length]
  exact Zb.take _ q
 refine mt_pop pins s σ H x _ v us Q I rx rv ⟨a,zs,w,e1,rfl,hz,by rw[q.length];exact hw,?_⟩
 have le:=Le.put (o:=.lst zs.dropLast) (mo':=.lst ds.dropLast) rs e2
 exact hQ _ _ le (rs.put e2 ⟨_,upd_same,Zb.le rs le _ q2⟩) (Rep.le rs le _ r)
theorem Zjf:MtR X "list.pop" (rMv X cl .popAt):=by
 intro pins s σ H x xs v us Q I rx rv ⟨S,P,a,ds,dxs,y,ds',rs,e1,e2,rr,h,hQ⟩
 obtain⟨np,zs,hz,q⟩:=rs.own a _ e2
 change UU ds dxs=_ at h
 unfold UU at h
 split at h <;> try cases h
 next i=>
 split at h <;> try cases h
 next hi=>
 split at h <;> try cases h
 next hy=>
 obtain⟨w,rfl,ri⟩:=rep1 rr
 cases ri
 obtain⟨w,hw,r⟩:=q.get hy
 have hl:i.toNat<zs.length:=(List.getElem?_eq_some_iff.mp hw).1
 have le:=Le.put (o:=.lst (zs.eraseIdx i.toNat)) (mo':=.lst (ds.eraseIdx i.toNat)) rs e2
 exact mt_popAt pins s σ H x _ v us Q I rx rv ⟨a,zs,i,i.toNat,w,e1,rfl,hz,by omega,by omega,seqIndex_of hi.1 (by omega),hw,hQ _ _ le (rs.put e2 ⟨_,upd_same,Zb.le rs le _ (Zb.erase _ q)⟩) (Rep.le rs le _ r)⟩
theorem ZkO {m:Mu}{eo:Expr}{ap cp:Pos}{es:List Expr}{o:M}{as:Ms}(hm:m=.pop∨m=.popAt)(hb:Yo eo=true)(hl:(ap.endLine == cp.line)=true)(hn:es.length≤20)(ho:DE Γ cl X eo o)(hk:chks c as es=true)(ha:DAs Γ cl X es as) :
  DE Γ cl X (.Call (.Attribute eo (Vx m) ap) es [] cp) (.mutv m o as):=by
 have en:Vx m = "pop" :=by rcases hm with rfl | rfl <;> rfl
 have mt:MtR X "list.pop" (rMv X cl m):=by
  rcases hm with rfl | rfl
  · exact Znt
  · exact Zjf
 rw[en]
 intro σ H ρ S P Q rs re hw
 unfold wE at hw
 have fresh:Vs (.mutv m o as)=false:=rfl
 cases es with
 | nil=>
   cases as with
   | cons a r=>unfold chks at hk;cases hk
   | nil=>
     refine Zu (pe_bm0 F.plainAttrs_list F.slot_list_pop F.type_list_pop mt c_e (YC hb) hl) ?_
     refine Ze (ho σ H ρ S P _ rs re hw) fun v H1 ⟨d,S1,le1,rs1,r1,⟨a,ds1,ed,e1,q⟩,_⟩=>?_
     subst ed
     cases r1
     unfold wEs at q
     obtain⟨ds,y,ds',e,e2,z2⟩:=q
     refine⟨?_,S1,P,a,ds,[],y,ds',rs1,rfl,e,.nil,e2,fun w H3 le3 rs3 r3=>Zw (le1.trans le3) rs3 r3 z2 (.inr fresh)⟩
     obtain⟨np,xs,e,_⟩:=rs1.own a _ e1
     exact .inl ⟨rfl,xs,SqL.of e⟩
 | cons e es=>
   obtain⟨hp,r,hr⟩:=Qh hk
   refine Zu (pe_bm F.plainAttrs_list F.slot_list_pop F.type_list_pop mt c_e c_a (YC hb) (Vq hk (by simp at hn;omega)) hl (Zg hp) (ZV c r es _ _ hr)) ?_
   refine Ze (ho σ H ρ S P _ rs re hw) fun v H1 ⟨d,S1,le1,rs1,r1,⟨a,ds1,ed,e1,q⟩,_⟩=>?_
   subst ed
   cases r1
   refine⟨?_,?_⟩
   · obtain⟨np,xs,e,_⟩:=rs1.own a _ e1
     exact .inl ⟨rfl,xs,SqL.of e⟩
   · refine Yc (ha σ H1 ρ S1 P _ rs1 (re.le rs le1) q) fun vs H2 ⟨xs,S2,le2,rs2,rr,ds,y,ds',e,e2,z2⟩=>?_
     exact⟨S2,P,a,ds,xs,y,ds',rs2,rfl,e,rr,e2,fun w H3 le3 rs3 r3=>Zw ((le1.trans le2).trans le3) rs3 r3 z2 (.inr fresh)⟩
end
end Sw
namespace Sw
open PySem PySem.Spec PyProof.Rows L2
section
variable {Γ:Gam}{cl:ClsT}{k:Nat}{X:Cx}{c:Cd}
def DL (Γ:Gam)(cl:ClsT)(X:Cx):List Expr→Ms→Prop
 | [],.nil=>True
 | e :: es,.cons a r=>Zi e=true∧DE Γ cl X e a∧DL Γ cl X es r
 | _,_=>False
theorem ZR:∀(es:List Expr)(as:Ms),DL Γ cl X es as→DAs Γ cl X es as
 | [],.nil,_=>ZkG
 | e :: es,.cons a r,h=>ZiN h.1 h.2.1 (ZR es r h.2.2)
 | [],.cons _ _,h=>h.elim
 | _ :: _,.nil,h=>h.elim
theorem Zdy:∀(ks:List Str)(es:List Expr)(as:Ms),DL Γ cl X es as→ks.length=es.length→∀(σ:L2.St)(H:Hp)(ρ:DEnv)(S:Za)(P:Addr→Prop)(Q:List D→Za→Prop),RS X.K cl H S P→REnv X.K H S P σ ρ→wEs Γ as ρ S Q→
  ∀R:List (V×V)→Hp→Prop,(∀vs ds H' S',Le H S P H' S'→RS X.K cl H' S' P→Zb X.K H' S' P vs ds→vs.length=ks.length→Q ds S'→R ((ks.zip vs).map fun p=>(V.str p.1,p.2)) H')→tPairs (ZcJ X ks es) σ H R
 | [],[],.nil,_,_,σ,H,ρ,S,P,Q,rs,re,hw,R,hR=>by
   unfold wEs at hw
   exact hR [] [] H S (Le.refl rs) rs .nil rfl hw
 | k :: ks,e :: es,.cons a r,hd,hl,σ,H,ρ,S,P,Q,rs,re,hw,R,hR=>by
   unfold wEs at hw
   show cE X e σ H fun y H2=>tPairs (ZcJ X ks es) σ H2 fun ps H3=>R ((V.str k,y) :: ps) H3
   refine Ze (hd.2.1 σ H ρ S P _ rs re hw) fun v H1 ⟨x,S1,le1,rs1,rx,q,_⟩=>?_
   refine Zdy ks es r hd.2.2 (by simpa using hl) σ H1 ρ S1 P _ rs1 (re.le rs le1) q _ fun vs ds H2 S2 le2 rs2 rr hlv q2=>?_
   exact hR (v :: vs) (x :: ds) H2 S2 (le1.trans le2) rs2 (.cons (Rep.le rs1 le2 _ rx) rr) (by simp[hlv]) q2
 | [],_ :: _,_,_,hl,_,_,_,_,_,_,_,_,_,_,_=>by simp at hl
 | _ :: _,[],_,_,hl,_,_,_,_,_,_,_,_,_,_,_=>by simp at hl
 | [],[],.cons _ _,h,_,_,_,_,_,_,_,_,_,_,_,_=>h.elim
 | _ :: _,_ :: _,.nil,h,_,_,_,_,_,_,_,_,_,_,_,_=>h.elim
theorem Zi6:∀(ks:List Str)(keys:List (Option Expr)),Wc ks keys=true→ks.length=keys.length∧keys.all (·.isSome)=true:=by
 intro ks
 induction ks with
 | nil=>
   intro keys h
   cases keys with
   | nil=>exact⟨rfl,rfl⟩
   | cons _ _=>unfold Wc at h;cases h
 | cons k ks ih=>
   intro keys h
   cases keys with
   | nil=>unfold Wc at h;cases h
   | cons e keys=>
     unfold Wc at h
     rw[Bool.and_eq_true] at h
     obtain⟨h1,h2⟩:=ih keys h.2
     refine⟨by simp[h1],?_⟩
     rw[List.all_cons,h2,Bool.and_true]
     cases e with
     | none=>unfold strC at h;cases h.1
     | some e=>rfl
theorem Zmp {ks:List Str}{keys:List (Option Expr)}{es:List Expr}{as:Ms}{pos:Pos}(hk:Wc ks keys=true)(hl:ks.length=es.length)(hn:(ks.map (Sum.inr:Str→Key)).Nodup)(h15:ks.length≤15)(h:DL Γ cl X es as):DE Γ cl X (.Dict keys es pos) (.dct ks as):=by
 intro σ H ρ S P Q rs re hw
 unfold wE at hw
 obtain⟨kl,ka⟩:=Zi6 ks keys hk
 cases ks with
 | nil=>
   cases keys with
   | cons _ _=>simp at kl
   | nil=>
     cases es with
     | cons _ _=>simp at hl
     | nil=>
       cases as with
       | cons _ _=>exact h.elim
       | nil=>
         unfold wEs at hw
         exact Zu pe_dnewK fun p hp=>Zac (xs:=[]) (Le.refl rs) rs hp rfl List.nodup_nil .nil hw
 | cons k0 ks0=>
   refine Zu (pe_disp (ZnM (k0 :: ks0) keys es pos hk hl) ka (by rw[← kl,hl]) (by intro z;rw[z] at kl;simp at kl) (by rw[← kl];exact h15)) ?_
   intro p hp
   obtain⟨s0,np⟩:=rs.none_of hp
   refine Zdy (k0 :: ks0) es as h hl σ _ ρ S (Zx P p) _ (RS.hide (o:=.dK []) rs hp trivial) (re.hide hp) hw _ fun vs ds H2 S2 le2 rs2 rr hlv q=>?_
   obtain⟨h2,_⟩:=le2.2 p (.inr rfl)
   rw[upd_same] at h2
   refine⟨h2,((k0 :: ks0).map Sum.inr).zip vs,?_,?_,?_⟩
   · rw[List.zip_map_left,List.map_map]
     rfl
   · rw[List.length_zip,List.length_map];omega
   · have hm:mergeK [] (((k0 :: ks0).map (Sum.inr:Str→Key)).zip vs)=((k0 :: ks0).map Sum.inr).zip vs:=by
      rw[QQ _ [] (by rw[List.nil_append,Xs _ _ (by rw[List.length_map,hlv])];exact hn),List.nil_append]
     rw[hm]
     have ld:=rr.length
     have m2:∃u,H2 p=some u∧Mut (some u):=⟨_,h2,trivial⟩
     have rs3:RS X.K cl (upd H2 p (.dK (((k0 :: ks0).map Sum.inr).zip vs))) S2 P:=rs2.show np m2
     have le3:Le H S P (upd H2 p (.dK (((k0 :: ks0).map Sum.inr).zip vs))) S2:=le2.show hp np
     have rr3:Zb X.K (upd H2 p (.dK (((k0 :: ks0).map Sum.inr).zip vs))) S2 P vs ds:=Zb.show m2 _ rr
     have sp:S2 p=none:=(rs2.hid p (.inr rfl)).1
     have hl1:((k0 :: ks0).map (Sum.inr:Str→Key)).length=vs.length:=by rw[List.length_map,hlv]
     refine⟨.dic _ ds,S2,le3,rs3,.dic (.inl ⟨upd_same,sp,np⟩) hl1 rr3,q,fun _ mo e=>?_⟩
     cases e
     refine⟨p,rfl,sp,le3.sput_new hp np,?_⟩
     have hl2:((k0 :: ks0).map (Sum.inr:Str→Key)).length=ds.length:=by rw[hl1,ld]
     have t3:Tr X.K (upd H2 p (.dK (((k0 :: ks0).map Sum.inr).zip vs))) S2 P (upd H2 p (.dK (((k0 :: ks0).map Sum.inr).zip vs))) (sput S2 p (.dic (((k0 :: ks0).map Sum.inr).zip ds))) P→True:=fun _=>trivial
     have rs4:RS X.K cl (upd H2 p (.dK (((k0 :: ks0).map Sum.inr).zip vs))) S2 (Zx P p):=by
      refine⟨fun a mo e=>?_,fun a z=>?_,rs3.sm⟩
      · obtain⟨nq,m⟩:=rs3.own a mo e
        have ne:a≠p:=fun z=>by rw[z,sp] at e;cases e
        obtain⟨nh,m2'⟩:=rs2.own a mo e
        refine⟨nh,?_⟩
        have tr:Tr X.K H2 S2 (Zx P p) (upd H2 p (.dK (((k0 :: ks0).map Sum.inr).zip vs))) S2 (Zx P p):=
         ⟨fun b xs hb=>by
          obtain⟨o,hb,hn⟩:=hb
          exact⟨o,by rw[upd_ne (fun z=>by rw[z,h2] at hb;cases hb)];exact hb,hn⟩,fun b xs hb=>by
          rcases hb with ⟨o,hb⟩ | hb
          · exact .inl ⟨o,by rw[upd_ne (fun z=>by rw[z,h2] at hb;cases hb)];exact hb⟩
          · exact .inr hb,
          fun b o hb s q=>⟨by rw[upd_ne (fun z=>q (.inr z))];exact hb,s,q⟩,
          fun b o kvs hb=>by rw[upd_ne (fun z=>by rw[z,h2] at hb;cases hb)];exact hb⟩
        cases mo with
        | lst ds=>obtain⟨xs,e,q⟩:=m2';exact⟨xs,by rw[upd_ne ne];exact e,Zb.tr tr _ q⟩
        | dic kvs=>obtain⟨vs,l,e,n,q⟩:=m2';exact⟨vs,l,by rw[upd_ne ne];exact e,n,Zb.tr tr _ q⟩
        | ins c fs=>obtain⟨C,dx,vs,c,l,e,q⟩:=m2';exact⟨C,dx,vs,c,l,by rw[upd_ne ne];exact e,Zb.tr tr _ q⟩
      · rcases z with z | z
        · exact rs3.hid a z
        · subst z;exact⟨sp,_,upd_same,.inl trivial⟩
     refine rs4.take np ?_
     refine⟨vs,by rw[List.length_zip];omega,by rw[Xs _ _ hl2];exact upd_same,by rw[Xs _ _ hl2];exact hn,?_⟩
     rw[Va _ _ hl2]
     have tr:Tr X.K H2 S2 (Zx P p) (upd H2 p (.dK (((k0 :: ks0).map Sum.inr).zip vs))) S2 (Zx P p):=
      ⟨fun b xs hb=>by
       obtain⟨o,hb,hn⟩:=hb
       exact⟨o,by rw[upd_ne (fun z=>by rw[z,h2] at hb;cases hb)];exact hb,hn⟩,fun b xs hb=>by
         rcases hb with ⟨o,hb⟩ | hb
         · exact .inl ⟨o,by rw[upd_ne (fun z=>by rw[z,h2] at hb;cases hb)];exact hb⟩
         · exact .inr hb,
       fun b o hb s q=>⟨by rw[upd_ne (fun z=>q (.inr z))];exact hb,s,q⟩,
           fun b o kvs hb=>by rw[upd_ne (fun z=>by rw[z,h2] at hb;cases hb)];exact hb⟩
     exact Zb.tr tr _ rr
theorem Ziu (F:XF Γ cl k X){s:Shared}{H:Hp}{scope:Scope}{cenv:Env}{fp:List Addr}:XF Γ cl k (X.blk s H scope cenv fp):=
 ⟨F.calm,F.nd,rfl,F.room,F.gd,fun f sp e=>⟨(F.fns f sp e).mono,(F.fns f sp e).ex⟩,F.gls,F.blt,F.flds,fun c m sp e=>⟨(F.mes c m sp e).mono,(F.mes c m sp e).ex⟩,fun c sp e=>⟨(F.inis c sp e).mono,(F.inis c sp e).ex⟩⟩
theorem Zit (C:XC c X){s:Shared}{H:Hp}{scope:Scope}{cl':List (Str×Addr)}{a:Addr}{fp:List Addr}:XC ⟨c.N,relS scope c.sc,fun x=>scope.names.lookup x == some .cell⟩ (X.blk s H scope (compEnvC scope cl' a X.env) fp):=
 ⟨C.n,by rw[← C.sc];rfl,fun x h=>h⟩
def SrcR (Γ:Gam)(cl:ClsT)(X:Cx)(s:Src)(as:Ms)(wi:TI):Prop:=∀(σ:L2.St)(H:Hp)(ρ:DEnv)(S:Za)(P:Addr→Prop)(Q:List D→List D→Za→Prop)(R:It→Hp→Prop),RS X.K cl H S P→REnv X.K H S P σ ρ→(wEs Γ as ρ S fun ds S1=>∃items,srcD s S1 ds=some items∧Q ds items S1)→
 (∀J vs ds items H1 S1,Le H S P H1 S1→RS X.K cl H1 S1 P→Zb X.K H1 S1 P vs ds→srcD s S1 ds=some items→Q ds items S1→ItOk X.K cl s vs ds J H1→R J H1)→wi σ H R
theorem ZdZ {iter:Expr}{a:M}(h:DE Γ cl X iter a):SrcR Γ cl X .it (.cons a .nil) (iIt X cl (cE X iter)):=by
 intro σ H ρ S P Q R rs re hw hR
 unfold wEs wEs at hw
 refine Ze (h σ H ρ S P _ rs re hw) fun v H1 ⟨d,S1,le1,rs1,r,⟨items,q1,q2⟩,_⟩=>?_
 exact⟨S1,P,d,items,rs1,r,q1,fun J H2 le2 rs2 ok=>hR J [v] [d] items H2 S1 (le1.trans le2) rs2 (.cons (Rep.le rs1 le2 _ r) .nil) q1 q2 ok⟩
theorem Zan {iter:Expr}{a:M}(h:DE Γ cl X iter a):SrcR Γ cl X .keys (.cons a .nil) (iKy X cl (cE X iter)):=by
 intro σ H ρ S P Q R rs re hw hR
 unfold wEs wEs at hw
 refine Ze (h σ H ρ S P _ rs re hw) fun v H1 ⟨d,S1,le1,rs1,r,⟨items,q1,q2⟩,_⟩=>?_
 exact⟨S1,P,d,items,rs1,r,q1,fun J H2 le2 rs2 ok=>hR J [v] [d] items H2 S1 (le1.trans le2) rs2 (.cons (Rep.le rs1 le2 _ r) .nil) q1 q2 ok⟩
theorem XX {x:Expr}{as:Ms}(h:DAs Γ cl X [x] as):SrcR Γ cl X .rng1 as (iRng1 (cA X [x])):=by
 intro σ H ρ S P Q R rs re hw hR
 refine Yc (h σ H ρ S P _ rs re hw) fun vs H1 ⟨ds,S1,le1,rs1,rr,items,q1,q2⟩=>?_
 have q1':=q1
 change Zgj ds=some items at q1
 unfold Zgj at q1
 split at q1 <;> try cases q1
 next b=>
 split at q1
 · next hb=>
   obtain⟨v,rfl,r⟩:=rep1 rr
   cases r
   exact⟨b,rfl,hb.1,hb.2,hR _ _ _ _ H1 S1 le1 rs1 rr q1' q2 Zhi⟩
 · cases q1
theorem Uk {x y:Expr}{as:Ms}(h:DAs Γ cl X [x,y] as):SrcR Γ cl X .rng2 as (iRng2 (cA X [x,y])):=by
 intro σ H ρ S P Q R rs re hw hR
 refine Yc (h σ H ρ S P _ rs re hw) fun vs H1 ⟨ds,S1,le1,rs1,rr,items,q1,q2⟩=>?_
 have q1':=q1
 change Zgk ds=some items at q1
 unfold Zgk at q1
 split at q1 <;> try cases q1
 next a b=>
 split at q1
 · next hb=>
   obtain⟨v,w,rfl,r,r'⟩:=rep2 rr
   cases r
   cases r'
   exact⟨a,b,rfl,⟨hb.1.1,hb.1.2,hb.2.1,hb.2.2⟩,hR _ _ _ _ H1 S1 le1 rs1 rr q1' q2 Zhj⟩
 · cases q1
theorem Zam {x:Expr}{as:Ms}(h:DAs Γ cl X [x] as):SrcR Γ cl X .enum as (iEn X.K (cA X [x])):=by
 intro σ H ρ S P Q R rs re hw hR
 refine Yc (h σ H ρ S P _ rs re hw) fun vs H1 ⟨ds,S1,le1,rs1,rr,items,q1,q2⟩=>?_
 have q1':=q1
 change ZfT S1 ds=some items at q1
 unfold ZfT at q1
 split at q1 <;> try cases q1
 next d=>
 cases e:seqD S1 d with
 | none=>rw[e] at q1;cases q1
 | some xs=>
   obtain⟨v,rfl,r⟩:=rep1 rr
   obtain⟨a,ys,rfl,ha,_⟩:=Wt rs1 r e
   exact⟨_,a,ys,rfl,ha,hR _ _ _ _ H1 S1 le1 rs1 rr q1' q2 Zi2⟩
theorem Zbw {x y:Expr}{as:Ms}(h:DAs Γ cl X [x,y] as):SrcR Γ cl X .zip as (iZp X.K (cA X [x,y])):=by
 intro σ H ρ S P Q R rs re hw hR
 refine Yc (h σ H ρ S P _ rs re hw) fun vs H1 ⟨ds,S1,le1,rs1,rr,items,q1,q2⟩=>?_
 have q1':=q1
 change zipS S1 ds=some items at q1
 unfold zipS at q1
 split at q1 <;> try cases q1
 next d e=>
 split at q1
 · next xs ys h1 h2=>
   obtain⟨v,w,rfl,r,r'⟩:=rep2 rr
   obtain⟨a,vs1,rfl,ha,_⟩:=Wt rs1 r h1
   obtain⟨b,vs2,rfl,hb,_⟩:=Wt rs1 r' h2
   exact⟨_,_,a,b,_,_,rfl,ha,hb,hR _ _ _ _ H1 S1 le1 rs1 rr q1' q2 Zk7⟩
 · cases q1
end
end Sw
namespace Sw
open PySem PySem.Spec PyProof.Rows L2
section
variable {Γ:Gam}{cl:ClsT}{k:Nat}{X:Cx}{c:Cd}
theorem Zca {K:PySem.W.Frag}{H:Hp}{S:Za}{P:Addr→Prop}{p:Addr}{va:List V}{o:HO}(h2:H p=some (.lst va)):Tr K H S (Zx P p) (upd H p o) S (Zx P p):=
 ⟨fun b xs hb=>by
  obtain⟨o,hb,hn⟩:=hb
  exact⟨o,by rw[upd_ne (fun z=>by rw[z,h2] at hb;cases hb)];exact hb,hn⟩,fun b xs hb=>by
          rcases hb with ⟨o,hb⟩ | hb
          · exact .inl ⟨o,by rw[upd_ne (fun z=>by rw[z,h2] at hb;cases hb)];exact hb⟩
          · exact .inr hb,
  fun b o hb s q=>⟨by rw[upd_ne (fun z=>q (.inr z))];exact hb,s,q⟩,
  fun b o kvs hb=>by rw[upd_ne (fun z=>by rw[z,h2] at hb;cases hb)];exact hb⟩
theorem ZhW {K:PySem.W.Frag}{H:Hp}{S:Za}{P:Addr→Prop}{p:Addr}{va vb:List V}(rs:RS K cl H S (Zx P p))(h2:H p=some (.lst va)):RS K cl (upd H p (.lst vb)) S (Zx P p):=by
 refine⟨fun a mo e=>?_,fun a z=>?_,XL rs (.inr ⟨_,h2,trivial⟩)⟩
 · obtain⟨nq,m⟩:=rs.own a mo e
   have ne:a≠p:=fun z=>nq (.inr z)
   refine⟨nq,?_⟩
   have tr:Tr K H S (Zx P p) (upd H p (.lst vb)) S (Zx P p):=Zca h2
   cases mo with
   | lst ds=>obtain⟨xs,e,q⟩:=m;exact⟨xs,by rw[upd_ne ne];exact e,Zb.tr tr _ q⟩
   | dic kvs=>obtain⟨vs,l,e,n,q⟩:=m;exact⟨vs,l,by rw[upd_ne ne];exact e,n,Zb.tr tr _ q⟩
   | ins c fs=>obtain⟨C,dx,vs,c,l,e,q⟩:=m;exact⟨C,dx,vs,c,l,by rw[upd_ne ne];exact e,Zb.tr tr _ q⟩
 · obtain⟨s,u,e,mu⟩:=rs.hid a z
   by_cases ne:a=p
   · subst ne;exact⟨s,_,upd_same,.inl trivial⟩
   · exact⟨s,u,by rw[upd_ne ne];exact e,mu⟩
abbrev Yh (X:Cx)(scope:Scope)(s0:Shared)(H0:Hp)(C:Addr)(cl':List (Str×Addr))(fp:List Addr):Cx:=X.blk s0 H0 scope (compEnvC scope cl' C X.env) fp
def tElt (X:Cx)(scope:Scope)(e:Expr):TE:=fun σ H Q=>∀s0 H0 C cl' fp,cE (Yh X scope s0 H0 C cl' fp) e σ H Q
def tIfs (X:Cx)(scope:Scope):List Expr→TT
 | []=>tYes
 | e :: _=>fun σ H Q=>∀s0 H0 C cl' fp,cT (Yh X scope s0 H0 C cl' fp) e σ H Q
theorem ZhQ {scope:Scope}{e:Expr}(s0:Shared)(H0:Hp)(C:Addr)(cl':List (Str×Addr))(fp:List Addr):PE (Yh X scope s0 H0 C cl' fp) e (tElt X scope e):=⟨fun pins s σ H Q I h=>h s0 H0 C cl' fp pins s I⟩
theorem Zfp {scope:Scope}{ifs:List Expr}(h1:ifs.length≤1)(s0:Shared)(H0:Hp)(C:Addr)(cl':List (Str×Addr))(fp:List Addr):PTs (Yh X scope s0 H0 C cl' fp) ifs (tIfs X scope ifs):=by
 cases ifs with
 | nil=>exact pts_nil
 | cons e es=>
   cases es with
   | nil=>exact pts_one ⟨fun pins s σ H Q I h=>h s0 H0 C cl' fp pins s I⟩
   | cons _ _=>simp at h1
def IfsD (Γ:Gam)(cl:ClsT)(X:Cx)(scope:Scope):List Expr→Ms→Prop
 | [],.nil=>True
 | [e],.cons m .nil=>∀s0 H0 C cl' fp,DT Γ cl (Yh X scope s0 H0 C cl' fp) e m
 | _,_=>False
theorem ZmV {scope:Scope}{ifs:List Expr}{cs:Ms}(h1:ifs.length≤1)(hd:IfsD Γ cl X scope ifs cs)
  {σ:L2.St} {H:Hp} {ρ:DEnv} {S:Za} {P:Addr→Prop} {Q:Bool→Za→Prop} (rs:RS X.K cl H S P) (re:REnv X.K H S P σ ρ) (hw:wTs Γ cs ρ S Q):tIfs X scope ifs σ H (liftT X.K cl Q H S P):=by
 cases ifs with
 | nil=>
   cases cs with
   | nil=>unfold wTs at hw;exact⟨S,Le.refl rs,rs,hw⟩
   | cons _ _=>exact hd.elim
 | cons e es=>
   cases es with
   | nil=>
     cases cs with
     | nil=>exact hd.elim
     | cons m r=>
       cases r with
       | nil=>exact fun s0 H0 C cl' fp=>hd s0 H0 C cl' fp σ H ρ S P Q rs re (by unfold wTs at hw;exact hw)
       | cons _ _=>exact hd.elim
   | cons _ _=>simp at h1
theorem Zio {step:D→Za→List D→(Za→List D→Prop)→Prop}{items:List D}{i:Nat}{S:Za}{acc:List D}{Q:List D→Za→Prop}(h:Ys step (items.drop i) S acc Q) :
  (∀d,items[i]?=some d→step d S acc fun S' acc'=>Ys step (items.drop (i+1)) S' acc' Q)∧(items[i]?=none→Q acc S):=by
 refine⟨fun d hd=>?_,fun hd=>?_⟩
 · have hi:i<items.length:=(List.getElem?_eq_some_iff.mp hd).1
   have e:items.drop i=items[i] :: items.drop (i+1):=List.drop_eq_getElem_cons hi
   rw[e] at h
   have ed:items[i]=d:=by rw[List.getElem?_eq_getElem hi] at hd;exact Option.some.inj hd
   rw[ed] at h
   exact h
 · have hi:items.length≤i:=List.getElem?_eq_none_iff.mp hd
   rw[List.drop_eq_nil_of_le hi] at h
   exact h
theorem Ze0 {s:Src}{as cs:Ms}{own:List Nat}{tg:Tg}{el:M}{t iter elt:Expr}{ifs:List Expr}{scope:Scope}{wi:TI}{ow:List (Str×Nat)}(hsrc:SrcR Γ cl X s as wi)
  (how:ow.map (·.2)=own) (hsl:∀i∈Y5 tg,i∈own) (h1:ifs.length≤1) (hd:IfsD Γ cl X scope ifs cs)
  (he:∀s0 H0 C cl' fp,DE Γ cl (Yh X scope s0 H0 C cl' fp) elt el) (σ:L2.St) (H:Hp) (ρ:DEnv) (S:Za) (P:Addr→Prop) (Q:Qd) (rs:RS X.K cl H S P) (re:REnv X.K H S P σ ρ) (hw:wE Γ (.comp s as own tg cs el) ρ S Q) (R:VK) (hR:∀v H',lift X.K cl true Q H S P v H'→R v H') :
  tLc wi (gT X.K tg) (tIfs X scope ifs) (tElt X scope elt) (ow.map (·.2)) σ H R:=by
 unfold wE at hw
 rw[how]
 refine hsrc σ H ρ S P _ _ rs re hw fun J vs ds items H1 S1 le1 rs1 rr e1 q ok1=>?_
 intro D hD
 obtain⟨sD,nD⟩:=rs1.none_of hD
 have re1:=re.le rs le1
 have rsh:RS X.K cl (upd H1 D (.lst [])) S1 (Zx P D):=RS.hide (o:=.lst []) rs1 hD trivial
 generalize hstep:(fun(d:Sw.D)(S:Za)(acc:List Sw.D)(K:Za→List Sw.D→Prop)=>srcD s S ds=some items∧∃ρ',setT tg d (wipeD ρ own)=some ρ'∧wTs Γ cs ρ' S fun t S'=>if t=true then wE Γ el ρ' S' fun y S''=>acc.length<sizeLine∧K S'' (acc++[y]) else K S' acc)=step at q
 have hs:∀d S acc K,step d S acc K=(srcD s S ds=some items∧∃ρ',setT tg d (wipeD ρ own)=some ρ'∧wTs Γ cs ρ' S fun t S'=>if t=true then wE Γ el ρ' S' fun y S''=>acc.length<sizeLine∧K S'' (acc++[y]) else K S' acc):=fun d S acc K=>by rw[← hstep]
 refine⟨fun i m H2=>m=items.length - i∧i≤items.length∧∃S2 acc va,RS X.K cl H2 S2 (Zx P D)∧Le (upd H1 D (.lst [])) S1 (Zx P D) (upd H2 D (.lst [])) S2∧H2 D=some (.lst va)∧Zb X.K H2 S2 (Zx P D) va acc∧
   Ys step (items.drop i) S2 acc fun acc S'=>srcD s S' ds=some items∧Q (.lst acc) S',⟨items.length,by simp,Nat.zero_le _,S1,[],[],rsh,by rw[upd_upd];exact Le.refl rsh,upd_same,.nil,q⟩,?_⟩
 rintro i m H2 ⟨rfl,hil,S2,acc,va,rs2,le2,hv,ra,wc⟩
 obtain⟨wgo,wstop⟩:=Zio wc
 have toD:∀(H2:Hp)(S2:Za)(va:List V),RS X.K cl H2 S2 (Zx P D)→H2 D=some (.lst va)→Tr X.K (upd H2 D (.lst [])) S2 (Zx P D) H2 S2 (Zx P D):=fun H2 S2 va rs2 hv=>
  ⟨fun b xs hb=>by
   obtain⟨o,hb,hn⟩:=hb
   have ne:b≠D:=fun z=>by rw[z,upd_same] at hb;cases hb
   rw[upd_ne ne] at hb
   exact⟨o,hb,hn⟩,fun b xs hb=>by
    rcases hb with ⟨o,hb⟩ | hb
    · have ne:b≠D:=fun z=>by rw[z,upd_same] at hb;cases hb
      rw[upd_ne ne] at hb;exact .inl ⟨o,hb⟩
    · exact .inr hb,
   fun b o hb s q=>by
   have ne:b≠D:=fun z=>q (.inr z)
   rw[upd_ne ne] at hb;exact⟨hb,s,q⟩,
   fun b o kvs hb=>by
   have ne:b≠D:=fun z=>by rw[z,upd_same] at hb;cases hb
   rw[upd_ne ne] at hb;exact hb⟩
 have rr2:Zb X.K H2 S2 (Zx P D) vs ds:=Zb.tr (toD H2 S2 va rs2 hv) _ (Zb.le rsh le2 _ (Zb.hide hD _ rr))
 have fz2:Fz H1 H2:=fun a o u h=>by
  have ne:a≠D:=fun z=>by rw[z,hD] at h;cases h
  have h1:upd H1 D (.lst []) a=some (.frz o u):=by rw[upd_ne ne];exact h
  have:=Le.fz rsh le2 a o u h1
  rw[upd_ne ne] at this;exact this
 have re2:REnv X.K H2 S2 (Zx P D) σ ρ:=by
  have:=(re1.hide (o:=.lst []) hD).le rsh le2
  exact⟨this.1,fun i d h=>let ⟨v,a,b⟩:=this.2 i d h;⟨v,a,Rep.tr (toD H2 S2 va rs2 hv) _ b⟩⟩
 cases hit:items[i]? with
 | none=>
   left
   obtain⟨esrc,qf⟩:=wstop hit
   obtain⟨_,stop⟩:=ok1 H2 S2 (Zx P D) items fz2 rs2 rr2 esrc i
   refine⟨stop hit,hR _ _ ?_⟩
   have m2:∃u,H2 D=some u∧Mut (some u):=⟨_,hv,trivial⟩
   have eH:upd H2 D (.lst va)=H2:=upd_self hv
   have rs3:RS X.K cl H2 S2 P:=by have:=rs2.show (o:=.lst va) nD m2;rw[eH] at this;exact this
   have le3:Le H S P H2 S2:=by
    have:=Le.show (o:=.lst va) hD nD le2
    rw[upd_upd,eH] at this
    exact le1.trans this
   have ra3:Zb X.K H2 S2 P va acc:=by have:=Zb.show (o:=.lst va) m2 _ ra;rw[eH] at this;exact this
   have sp:S2 D=none:=(rs2.hid D (.inr rfl)).1
   refine⟨.lst acc,S2,le3,rs3,.lst hv sp nD ra3,qf,fun _ mo e=>?_⟩
   cases e
   have le4:Le H1 S1 P H2 (sput S2 D (.lst acc)):=by
    have:=Le.show (o:=.lst va) hD nD le2
    rw[upd_upd,eH] at this
    exact this.sput_new hD nD
   exact⟨D,rfl,sp,le1.trans le4,rs2.take nD ⟨va,hv,ra⟩⟩
 | some d=>
   right
   have wd:=wgo d hit
   rw[hs] at wd
   obtain⟨esrc,ρ',eset,wts⟩:=wd
   obtain⟨go,_⟩:=ok1 H2 S2 (Zx P D) items fz2 rs2 rr2 esrc i
   obtain⟨g1,g2⟩:=go d hit
   have hlt:i<items.length:=(List.getElem?_eq_some_iff.mp hit).1
   refine⟨g1,fun H'=>∃S' acc va,RS X.K cl H' S' (Zx P D)∧Le (upd H1 D (.lst [])) S1 (Zx P D) (upd H' D (.lst [])) S'∧H' D=some (.lst va)∧Zb X.K H' S' (Zx P D) va acc∧Ys step (items.drop (i+1)) S' acc fun acc S'=>srcD s S' ds=some items∧Q (.lst acc) S',
    fun H' n=>⟨items.length - (i+1),by omega,rfl,hlt,n⟩,fun x H3 hy=>?_⟩
   obtain⟨le3,rs3,rx⟩:=g2 x H3 hy
   have hv3:H3 D=some (.lst va):=((le3.2 D (.inr rfl)).1).trans hv
   refine QA tg rx ((re2.le rs2 le3).wipe own) eset fun σ' re' hw'=>?_
   have rsg:∀(s0:Shared)(H0:Hp)(C:Addr)(cl':List (Str×Addr))(fp:List Addr),True:=fun _ _ _ _ _=>trivial
   refine⟨by rw[hw' own hsl,Ziq],?_⟩
   have later:∀(H4:Hp)(S4:Za),Le H2 S2 (Zx P D) H4 S4→RS X.K cl H4 S4 (Zx P D)→Le (upd H1 D (.lst [])) S1 (Zx P D) (upd H4 D (.lst [])) S4:=fun H4 S4 le rs4=>by
    refine⟨fun a o e s q=>?_,fun a z=>?_⟩
    · obtain⟨e2,s2⟩:=le2.1 a o e s q
      have ne:a≠D:=fun z=>q (.inr z)
      rw[upd_ne ne] at e2
      rcases e2 with e2 |⟨od,kvs,eo,e2⟩
      · obtain⟨e4,s4⟩:=le.1 a o e2 s2 q
        exact⟨by rw[upd_ne ne];exact e4,s4⟩
      · obtain⟨e4,s4⟩:=le.1 a _ e2 s2 q
        exact⟨.inr ⟨od,kvs,eo,by rw[upd_ne ne];exact e4.eq fun _ z=>nomatch z⟩,s4⟩
    · obtain⟨e2,s2⟩:=le2.2 a z
      obtain⟨e4,s4⟩:=le.2 a z
      by_cases ne:a=D
      · subst ne;exact⟨by rw[upd_same,upd_same],s4⟩
      · rw[upd_ne ne,upd_ne ne] at e2
        exact⟨by rw[upd_ne ne,upd_ne ne,e4,e2],s4⟩
   have tr3:tIfs X scope ifs σ' H3 (liftT X.K cl (fun t S'=>if t=true then wE Γ el ρ' S' fun y S''=>acc.length<sizeLine∧Ys step (items.drop (i+1)) S'' (acc++[y]) fun acc S'=>srcD s S' ds=some items∧Q (.lst acc) S' else Ys step (items.drop (i+1)) S' acc fun acc S'=>srcD s S' ds=some items∧Q (.lst acc) S') H3 S2 (Zx P D)):=
    ZmV h1 hd rs3 re' wts
   have mono:∀ {R R':Bool→Hp→Prop},tIfs X scope ifs σ' H3 R→(∀b H',R b H'→R' b H')→tIfs X scope ifs σ' H3 R':=fun {R R'} t m=>by
    cases ifs with
    | nil=>exact m _ _ t
    | cons e es=>exact fun s0 H0 C cl' fp=>Y9 (t s0 H0 C cl' fp) m
   refine mono tr3 fun b H4 ⟨S4,le4,rs4,q4⟩=>?_
   have le24:=le3.trans le4
   have hv4:H4 D=some (.lst va):=((le24.2 D (.inr rfl)).1).trans hv
   cases b with
   | false=>
     rw[if_neg Bool.false_ne_true] at q4
     rw[if_neg Bool.false_ne_true]
     exact⟨S4,acc,va,rs4,later H4 S4 le24 rs4,hv4,Zb.le rs2 le24 _ ra,q4⟩
   | true=>
     rw[if_pos rfl] at q4
     rw[if_pos rfl]
     intro s0 H0 C cl' fp
     refine Ze (he s0 H0 C cl' fp σ' H4 ρ' S4 (Zx P D) _ rs4 (re'.le rs3 le4) q4) fun y H5 ⟨dy,S5,le5,rs5,ry,⟨hz,q5⟩,_⟩=>?_
     have le25:=le24.trans le5
     have hv5:H5 D=some (.lst va):=((le25.2 D (.inr rfl)).1).trans hv
     have ra5:Zb X.K H5 S5 (Zx P D) va acc:=Zb.le rs2 le25 _ ra
     refine⟨va,hv5,by rw[ra5.length];exact hz,S5,acc++[dy],va++[y],?_,?_,upd_same,?_,q5⟩
     · exact ZhW rs5 hv5
     · rw[upd_upd];exact later H5 S5 le25 rs5
     · exact Zb.tr (Zca hv5) _ (Zb.app ra5 (.cons ry .nil))
theorem ZkI {s:Src}{as cs:Ms}{own:List Nat}{tg:Tg}{el:M}{t iter elt:Expr}{ifs:List Expr}{scope:Scope}{pos:Pos}{wi:TI}{ow:List (Str×Nat)}(F:XF Γ cl k X)(hpl:Zi iter=true)(hi:PI X t iter wi)(hsrc:SrcR Γ cl X s as wi)
  (ok:BlkOk X.N X.env.scope scope ow) (how:ow.map (·.2)=own) (hsl:∀i∈Y5 tg,i∈own) (hg:∀s0 H0 C cl' fp,PG (Yh X scope s0 H0 C cl' fp) t (gT X.K tg)) (h1:ifs.length≤1)
  (hd:IfsD Γ cl X scope ifs cs)
  (he:∀s0 H0 C cl' fp,DE Γ cl (Yh X scope s0 H0 C cl' fp) elt el):DE Γ cl X (.ListComp elt [⟨t,iter,ifs,0⟩] scope pos) (.comp s as own tg cs el):=by
 intro σ H ρ S P Q rs re hw
 exact Zu (pe_lc (tt:=tIfs X scope ifs) (te:=tElt X scope elt) F.calm F.nd hi ok (fun s0 H0 C cl' fp=>hg s0 H0 C cl' fp) (fun s0 H0 C cl' fp=>Zfp h1 s0 H0 C cl' fp) (fun s0 H0 C cl' fp=>ZhQ s0 H0 C cl' fp) (W4 hpl)) (Ze0 (t:=t) (iter:=iter) hsrc how hsl h1 hd he σ H ρ S P Q rs re hw _ fun _ _ l=>l)
theorem ZiR {i:Nat}{y:Str}{py spos:Pos}{s:Src}{as cs:Ms}{own:List Nat}{tg:Tg}{el:M}{t iter elt:Expr}{ifs:List Expr}{scope:Scope}{pos:Pos}{wi:TI}{ow:List (Str×Nat)}(F:XF Γ cl k X)(hy:X.N[i]?=some y)(hyl:X.env.scope.names.lookup y=some .local)
  (hsw:swapsWith (.ListComp elt [⟨t,iter,ifs,0⟩] scope pos) (some (.Name y py)) spos.line X.env=pure true) (hpl:Zi iter=true) (hi:PI X t iter wi) (hsrc:SrcR Γ cl X s as wi)
  (ok:BlkOk X.N X.env.scope scope ow) (how:ow.map (·.2)=own) (hsl:∀i∈Y5 tg,i∈own) (hg:∀s0 H0 C cl' fp,PG (Yh X scope s0 H0 C cl' fp) t (gT X.K tg)) (h1:ifs.length≤1)
  (hd:IfsD Γ cl X scope ifs cs)
  (he:∀s0 H0 C cl' fp,DE Γ cl (Yh X scope s0 H0 C cl' fp) elt el) (σ:L2.St) (H:Hp) (ρ:DEnv) (S:Za) (P:Addr→Prop) (Q:Qd) (rs:RS X.K cl H S P) (re:REnv X.K H S P σ ρ) (hw:wE Γ (.comp s as own tg cs el) ρ S Q) (D:Ends)
  (hD:∀v H',lift X.K cl true Q H S P v H'→D.nx (σ.set i (some v)) H'):cS X (.Assign [.Name y py] (.ListComp elt [⟨t,iter,ifs,0⟩] scope pos) spos) D σ H:=by
 refine YH (ps_setLc (tt:=tIfs X scope ifs) (te:=tElt X scope elt) F.calm F.nd hy hyl hsw hi ok (fun s0 H0 C cl' fp=>hg s0 H0 C cl' fp) (fun s0 H0 C cl' fp=>Zfp h1 s0 H0 C cl' fp) (fun s0 H0 C cl' fp=>ZhQ s0 H0 C cl' fp) (W4 hpl)) ?_
 exact Ze0 (t:=t) (iter:=iter) hsrc how hsl h1 hd he σ H ρ S P Q rs re hw _ hD
mutual
theorem ZdH {K:PySem.W.Frag}{H2 H3:Hp}{S:Za}{P:Addr→Prop}{p:Addr}{o:Obj}{kvs:List (Key×V)}(hp:H2 p=some (.frz o (.dK kvs)))(hn:∀a,a≠p→H3 a=H2 a) :
  ∀(d:D){v:V},d.pure=true→Rep K H2 (fun _=>none) (fun a=>P a∨S a≠none) v d→Rep K H3 S P v d
 | .non,_,_,.non=>.non
 | .bl _,_,_,.bl b=>.bl b
 | .int _,_,_,.int i=>.int i
 | .str _,_,_,.str x=>.str x
 | .tup ds,_,hd,.tup h hs=>.tup (by
   obtain⟨o',h,n⟩:=h
   exact⟨o',by rw[hn _ (fun z=>by rw[z,hp] at h;cases h)];exact h,n⟩) (U5 hp hn ds (by rw[D.pure] at hd;exact hd) hs)
 | .lst ds,_,hd,.lst (a:=a) h _ q hs=>.lst (by rw[hn _ (fun z=>by rw[z,hp] at h;cases h)];exact h) (by
   cases e:S a with
   | none=>rfl
   | some mo=>exact(q (.inr (by rw[e];exact fun z=>nomatch z))).elim) (fun z=>q (.inl z)) (U5 hp hn ds (by rw[D.pure] at hd;exact hd) hs)
 | .dic _ _,_,hd,_=>by rw[D.pure] at hd;cases hd
 | .scr _,_,hd,_=>by rw[D.pure] at hd;cases hd
 | .obj _,_,hd,_=>by rw[D.pure] at hd;cases hd
theorem U5 {K:PySem.W.Frag}{H2 H3:Hp}{S:Za}{P:Addr→Prop}{p:Addr}{o:Obj}{kvs:List (Key×V)}(hp:H2 p=some (.frz o (.dK kvs)))(hn:∀a,a≠p→H3 a=H2 a) :
  ∀(ds:List D){vs:List V},D.pureAll ds=true→Zb K H2 (fun _=>none) (fun a=>P a∨S a≠none) vs ds→Zb K H3 S P vs ds
 | [],_,_,.nil=>.nil
 | d :: ds,_,hd,.cons r t=>by
   rw[D.pureAll,Bool.and_eq_true] at hd
   exact .cons (ZdH hp hn d hd.1 r) (U5 hp hn ds hd.2 t)
end
theorem ZoQ {i:Nat}{a:M}{e:Expr}(h:DE Γ cl X e a):DE Γ cl X e (.lk i a):=by
 intro σ H ρ S P Q rs re hw
 unfold wE at hw
 obtain⟨p,kvs,hp,hS,hw⟩:=hw
 obtain⟨v,hv,rv⟩:=re.2 i _ hp
 obtain⟨np,vs,l,hH,nd,q⟩:=rs.own p _ hS
 refine Zu (pe_lock c_e) ⟨p,_,hH,trivial,fun od=>?_⟩
 have ne:∀ {b:Addr} {o:HO},H b=some o→(∀u,o≠.dK u)→b≠p:=fun hb n z=>by rw[z,hH] at hb;cases hb;exact n _ rfl
 have tr:Tr X.K H S P (upd H p (.frz od (.dK ((kvs.map (·.1)).zip vs)))) (fun _=>none) (fun a=>P a∨S a≠none):=
  ⟨fun b xs hb=>by
   obtain⟨o,hb,hn⟩:=hb
   exact⟨o,by rw[upd_ne (ne hb fun _ z=>nomatch z)];exact hb,hn⟩,fun b xs hb=>by
    rcases hb with ⟨o,hb⟩ | hb
    · exact .inl ⟨o,by rw[upd_ne (ne hb fun _ z=>nomatch z)];exact hb⟩
    · exact .inr hb,
   fun b o hb s q=>⟨by rw[upd_ne (fun z=>by rw[z,hS] at s;cases s)];exact hb,rfl,fun z=>z.elim q fun z=>z s⟩,
   fun b o u hb=>by rw[upd_ne (ne hb fun _ z=>nomatch z)];exact hb⟩
 have rs':RS X.K cl (upd H p (.frz od (.dK ((kvs.map (·.1)).zip vs)))) (fun _=>none) (fun a=>P a∨S a≠none):=by
  refine⟨fun a o e=>(nomatch e),fun a z=>⟨rfl,?_⟩,XL rs (.inr ⟨_,hH,trivial⟩)⟩
  by_cases ha:a=p
  · subst ha;exact⟨_,upd_same,.inr ⟨_,_,rfl⟩⟩
  · rw[upd_ne ha]
    rcases z with z | z
    · exact(rs.hid a z).2
    · cases e:S a with
      | none=>exact(z e).elim
      | some mo=>
        obtain⟨u,hu,mu⟩:=(rs.own a mo e).2.mut
        exact⟨u,hu,.inl mu⟩
 have re':REnv X.K (upd H p (.frz od (.dK ((kvs.map (·.1)).zip vs)))) (fun _=>none) (fun a=>P a∨S a≠none) σ (ρ.set i (some (.dic (kvs.map (·.1)) (kvs.map (·.2))))):=by
  refine⟨by rw[List.length_set];exact re.1,fun j d hj=>?_⟩
  by_cases hi:i=j
  · subst hi
    have hl:i<ρ.length:=(List.getElem?_eq_some_iff.mp hp).1
    rw[List.getElem?_set_self hl] at hj
    cases hj
    cases rv
    exact⟨_,hv,.dic (.inr ⟨od,upd_same⟩) (by rw[List.length_map,l]) (Zb.tr tr _ q)⟩
  · rw[List.getElem?_set_ne hi] at hj
    obtain⟨w,h1,h2⟩:=re.2 j d hj
    exact⟨w,h1,Rep.tr tr _ h2⟩
 refine Ze (h σ _ _ _ _ _ rs' re' hw) fun w H2 ⟨d,S2,le,rs2,r2,⟨hd,qQ⟩,_⟩=>?_
 have dr:=Le.drop rs2 (S':=fun _=>none) (fun a o e=>(nomatch e))
 replace r2:=Rep.le rs2 dr _ r2
 replace le:=le.trans dr
 replace rs2:=rs2.drop (S':=fun _=>none) (fun a o e=>(nomatch e))
 have pin:S p≠none:=by rw[hS];exact fun z=>nomatch z
 have hpp:H2 p=some (.frz od (.dK ((kvs.map (·.1)).zip vs))):=by rw[(le.2 p (.inr pin)).1];exact upd_same
 have same:∀a,(P a∨S a≠none)→upd H2 p (.dK ((kvs.map (·.1)).zip vs)) a=H a:=fun a z=>by
  by_cases ha:a=p
  · subst ha;rw[upd_same,hH]
  · rw[upd_ne ha,(le.2 a z).1,upd_ne ha]
 have le3:Le H S P (upd H2 p (.dK ((kvs.map (·.1)).zip vs))) S:=by
  refine⟨fun a o e s q=>⟨?_,s⟩,fun a z=>⟨same a (.inl z),(rs.hid a z).1⟩⟩
  have ha:a≠p:=fun z=>pin (by rw[← z];exact s)
  have:=(le.1 a o (by rw[upd_ne ha];exact e) rfl (fun z=>z.elim q fun z=>z s)).1
  rw[upd_ne ha];exact this
 have rs3:RS X.K cl (upd H2 p (.dK ((kvs.map (·.1)).zip vs))) S P:=by
  refine⟨fun a mo e=>⟨(rs.own a mo e).1,rs.le_own le3 (rs.own a mo e).2 (same a (.inr (by rw[e];exact fun z=>nomatch z)))⟩,fun a z=>?_,?_⟩
  · rw[same a (.inl z)];exact rs.hid a z
  · obtain⟨u,e,n⟩:=rs2.sm
    refine⟨u,?_,n⟩
    rw[upd_ne (fun z=>?_)]
    · exact e
    · obtain⟨u',e',n'⟩:=rs.sm
      rw[z,hH] at e';cases e';exact n' trivial
 exact⟨hpp,d,S,le3,rs3,ZdH hpp (fun a ha=>upd_ne ha) d hd r2,qQ,fun e=>by cases e⟩
end
end Sw
namespace Sw
open PySem PySem.Spec PyProof.Rows L2
section
variable {Γ:Gam}{cl:ClsT}{k:Nat}
theorem Znv {g:Str}(h:g∈Z6):g≠("__name__" : Str)∧(g == ("__debug__" : Str))=false:=by
 have:∀g∈Z6,g≠("__name__" : Str)∧(g == ("__debug__" : Str))=false:=by decide +kernel
 exact this g h
theorem ZgQ (f:Bi):X7 f∈Z6:=by cases f <;> decide +kernel
theorem Zma {X:Cx}{c:Cd}(F:XF Γ cl k X)(C:XC c X){f:Bi}{x:Expr}{es:List Expr}{as:Ms}{p pos:Pos}(h1:f≠.lrange1)(h2:f≠.lrange2)(hg:gloC c (X7 f)=true)(hk:chks c as (x :: es)=true)(h:DAs Γ cl X (x :: es) as) :
  DE Γ cl X (.Call (.Name (X7 f) p) (x :: es) [] pos) (.bi f as):=by
 have hm:=F.blt _ (ZgQ f)
 obtain⟨hn,hd⟩:=Znv (ZgQ f)
 have bB:∀ {id:String},bootBuiltins (X7 f)=some (.builtin id)→CallR X (.builtin id) (rBi X cl f)→DE Γ cl X (.Call (.Name (X7 f) p) (x :: es) [] pos) (.bi f as):=fun hv hc=>Zmm C hg hm hv hc hn hd hk h
 have bT:∀ {id:String},bootBuiltins (X7 f)=some (.type id)→CallR X (.type id) (rBi X cl f)→DE Γ cl X (.Call (.Name (X7 f) p) (x :: es) [] pos) (.bi f as):=fun hv hc=>Zmn C hg hm hv hc hn hd hk h
 clear hm hn hd
 cases f with
 | len=>exact bB (by decide +kernel) bi_len
 | abs=>exact bB (by decide +kernel) Zl7
 | tuple=>exact bT (by decide +kernel) ZiH
 | list=>exact bT (by decide +kernel) Zkw
 | min2=>exact bB (by decide +kernel) (Zky F.calm)
 | max2=>exact bB (by decide +kernel) (Zkx F.calm)
 | int=>exact bT (by decide +kernel) Zmb
 | sum=>exact bB (by decide +kernel) (Zmf F.calm)
 | all=>exact bB (by decide +kernel) (Zl8 F.calm)
 | any=>exact bB (by decide +kernel) (Zl9 F.calm)
 | repr=>exact bB (by decide +kernel) (Zkz F.gd F.hu)
 | str=>exact bT (by decide +kernel) Zme
 | lrange1=>exact(h1 rfl).elim
 | lrange2=>exact(h2 rfl).elim
 | sorted=>exact bB (by decide +kernel) (ZgP F.calm F.hu)
 | dict=>exact bT (by decide +kernel) (Zkv F.calm)
 | min1=>exact bB (by decide +kernel) (ZeY F.calm F.hu false)
 | max1=>exact bB (by decide +kernel) (ZeY F.calm F.hu true)
 | suml=>exact bB (by decide +kernel) (ZkA F.calm)
theorem dl1 {X:Cx}{x:Expr}{as:Ms}(h:DL Γ cl X [x] as):Zi x=true:=by
 cases as with
 | nil=>exact h.elim
 | cons a r=>exact h.1
theorem dl2 {X:Cx}{x y:Expr}{as:Ms}(h:DL Γ cl X [x,y] as):Zi x=true∧Zi y=true:=by
 cases as with
 | nil=>exact h.elim
 | cons a r=>cases r with
   | nil=>exact h.2.2.elim
   | cons b r=>exact⟨h.1,h.2.2.1⟩
theorem Zfn (N:List Str)(own:List Nat):(ownC N own).map (·.2)=own:=by
 unfold ownC
 rw[List.map_map]
 induction own with
 | nil=>rfl
 | cons a r ih=>rw[List.map_cons,ih];rfl
theorem Zaz {c:Cd}{s:Src}{as cs:Ms}{own:List Nat}{tg:Tg}{el:M}{e:Expr}(h:chk c (.comp s as own tg cs el) e=true):∃elt t iter ifs scope pos,e=.ListComp elt [⟨t,iter,ifs,0⟩] scope pos∧ifs.length≤1∧Zi iter=true∧
  ((s=.it∧∃a,as=.cons a .nil∧chk c a iter=true)∨
   (s=.rng1∧∃p q x,iter=.Call (.Name "range" p) [x] [] q∧gloC c "range" = true∧chks c as [x]=true)∨
   (s=.rng2∧∃p q x y,iter=.Call (.Name "range" p) [x,y] [] q∧gloC c "range" = true∧chks c as [x,y]=true)∨
   (s=.enum∧∃p q x tt tk tp,t=.Tuple tt tk tp∧iter=.Call (.Name "enumerate" p) [x] [] q∧gloC c "enumerate" = true∧chks c as [x]=true)∨
   (s=.zip∧∃p q x y tt tk tp,t=.Tuple tt tk tp∧iter=.Call (.Name "zip" p) [x,y] [] q∧gloC c "zip" = true∧chks c as [x,y]=true)∨
   (s=.keys∧∃a,as=.cons a .nil∧chk c a iter=true))∧
  blkC c.N c.sc scope (ownC c.N own)=true∧(∀i∈Y5 tg,i∈own)∧
  chkT ⟨c.N,relS scope c.sc,fun x=>scope.names.lookup x == some .cell⟩ tg t=true∧chks ⟨c.N,relS scope c.sc,fun x=>scope.names.lookup x == some .cell⟩ cs ifs=true∧chk ⟨c.N,relS scope c.sc,fun x=>scope.names.lookup x == some .cell⟩ el elt=true:=by
 unfold chk at h
 split at h
 · next elt t iter ifs scope pos=>
   simp only[Bool.and_eq_true,List.all_eq_true,decide_eq_true_eq] at h
   obtain⟨⟨⟨⟨⟨⟨⟨hl,hp⟩,hs⟩,hb⟩,hsl⟩,ht⟩,hc⟩,he⟩:=h
   refine⟨elt,t,iter,ifs,scope,pos,rfl,hl,hp,?_,hb,hsl,ht,hc,he⟩
   cases s with
   | it=>
     dsimp only at hs
     split at hs
     · exact .inl ⟨rfl,_,rfl,hs⟩
     · cases hs
   | rng1=>
     dsimp only at hs
     split at hs
     · simp only[Bool.and_eq_true,decide_eq_true_eq] at hs
       obtain⟨⟨e,h2⟩,h3⟩:=hs
       subst e
       exact .inr (.inl ⟨rfl,_,_,_,rfl,h2,h3⟩)
     · cases hs
   | rng2=>
     dsimp only at hs
     split at hs
     · simp only[Bool.and_eq_true,decide_eq_true_eq] at hs
       obtain⟨⟨e,h2⟩,h3⟩:=hs
       subst e
       exact .inr (.inr (.inl ⟨rfl,_,_,_,_,rfl,h2,h3⟩))
     · cases hs
   | enum=>
     dsimp only at hs
     split at hs
     · simp only[Bool.and_eq_true,decide_eq_true_eq] at hs
       obtain⟨⟨e,h2⟩,h3⟩:=hs
       subst e
       exact .inr (.inr (.inr (.inl ⟨rfl,_,_,_,_,_,_,rfl,rfl,h2,h3⟩)))
     · cases hs
   | zip=>
     dsimp only at hs
     split at hs
     · simp only[Bool.and_eq_true,decide_eq_true_eq] at hs
       obtain⟨⟨e,h2⟩,h3⟩:=hs
       subst e
       exact .inr (.inr (.inr (.inr (.inl ⟨rfl,_,_,_,_,_,_,_,rfl,rfl,h2,h3⟩))))
     · cases hs
   | keys=>
     dsimp only at hs
     split at hs
     · exact .inr (.inr (.inr (.inr (.inr ⟨rfl,_,rfl,hs⟩))))
     · cases hs
 · cases h
mutual
theorem Zh:∀(m:M)(c:Cd)(X:Cx)(e:Expr),XF Γ cl k X→XC c X→chk c m e=true→All3 Γ cl X e m
 | .v i,c,X,e,F,C,h=>by
   unfold chk at h
   split at h
   · exact all_gen rfl (de_v C h)
   · cases h
 | .k d,c,X,e,F,C,h=>by
   unfold chk at h
   split at h
   · exact all_gen rfl (de_k h)
   · cases h
 | .g x,c,X,e,F,C,h=>by
   unfold chk at h
   split at h
   · simp only[Bool.and_eq_true,decide_eq_true_eq,Bool.not_eq_true'] at h
     obtain⟨⟨e,h2⟩,h3⟩:=h
     subst e
     exact all_gen rfl (de_g F C h2 h3)
   · cases h
 | .bin o a b,c,X,e,F,C,h=>by
   unfold chk at h
   split at h
   · simp only[Bool.and_eq_true,decide_eq_true_eq] at h
     obtain⟨⟨e,h2⟩,h3⟩:=h
     subst e
     exact all_gen rfl (Zmo (Zh a c X _ F C h2).ex (Zh b c X _ F C h3).ex)
   · cases h
 | .neg a,c,X,e,F,C,h=>by
   unfold chk at h
   split at h
   · exact all_gen rfl (Zmv (Zh a c X _ F C h).ex)
   · cases h
 | .cmp o a b,c,X,e,F,C,h=>by
   unfold chk at h
   split at h
   · simp only[Bool.and_eq_true,decide_eq_true_eq] at h
     obtain⟨⟨⟨e,h2⟩,h3⟩,h4⟩:=h
     subst e
     exact ZmL F.hu (QR h4) (Zh a c X _ F C h2).ex (Zh b c X _ F C h3).ex
   · cases h
 | .chain o o' a b d,c,X,e,F,C,h=>by
   unfold chk at h
   split at h
   · simp only[Bool.and_eq_true,decide_eq_true_eq] at h
     obtain⟨⟨⟨⟨⟨⟨e1,e2⟩,h2⟩,h3⟩,h4⟩,h5⟩,h6⟩:=h
     subst e1 e2
     exact ZgL F.hu (Zgf h6) (Zh a c X _ F C h2).ex (Zh b c X _ F C h3).ex (Zh d c X _ F C h4).ex
   · cases h
 | .isn no a,c,X,e,F,C,h=>by
   unfold chk at h
   split at h
   · simp only[Bool.and_eq_true,decide_eq_true_eq] at h
     obtain⟨e,h2⟩:=h
     subst e
     exact Zkr (Zh a c X _ F C h2).ex
   · cases h
 | .isb no b a,c,X,e,F,C,h=>by
   unfold chk at h
   split at h
   · simp only[Bool.and_eq_true,decide_eq_true_eq] at h
     obtain⟨⟨e,h1⟩,h2⟩:=h
     have h1:=eq_of_beq h1
     subst e h1
     exact Zkq (Zh a c X _ F C h2).ex
   · cases h
 | .and a b,c,X,e,F,C,h=>by
   unfold chk at h
   split at h
   · simp only[Bool.and_eq_true] at h
     have hb:=Zh b c X _ F C h.2
     exact ZeW (Zh a c X _ F C h.1) (Zj3 hb.ex) (Znz hb.te)
   · simp only[Bool.and_eq_true] at h
     have hb:=Zh b c X _ F C h.2
     exact ZeW (Zh a c X _ F C h.1) hb.ex hb.wh
   · cases h
 | .or a b,c,X,e,F,C,h=>by
   unfold chk at h
   split at h
   · simp only[Bool.and_eq_true] at h
     have hb:=Zh b c X _ F C h.2
     exact ZgM (Zh a c X _ F C h.1) (Zj3 hb.ex) (ZnA hb.te)
   · simp only[Bool.and_eq_true] at h
     have hb:=Zh b c X _ F C h.2
     exact ZgM (Zh a c X _ F C h.1) hb.ex hb.wh
   · cases h
 | .not a,c,X,e,F,C,h=>by
   unfold chk at h
   split at h
   · exact Zkt (Zh a c X _ F C h)
   · cases h
 | .ite d a b,c,X,e,F,C,h=>by
   unfold chk at h
   split at h
   · simp only[Bool.and_eq_true] at h
     exact Zks (Zh d c X _ F C h.1.1) (Zh a c X _ F C h.1.2) (Zh b c X _ F C h.2)
   · cases h
 | .tup as,c,X,e,F,C,h=>by
   unfold chk at h
   split at h
   · exact all_gen rfl (Zmy (ZR _ _ (ZU as c X _ F C h)))
   · cases h
 | .lst as,c,X,e,F,C,h=>by
   unfold chk at h
   split at h
   · exact all_gen rfl (Zmu (ZR _ _ (ZU as c X _ F C h)))
   · cases h
 | .dct ks as,c,X,e,F,C,h=>by
   unfold chk at h
   split at h
   · simp only[Bool.and_eq_true,decide_eq_true_eq] at h
     obtain⟨⟨⟨⟨h1,h2⟩,h3⟩,h4⟩,h5⟩:=h
     exact all_gen rfl (Zmp h1 h3 h4 h5 (ZU as c X _ F C h2))
   · cases h
 | .isa t a,c,X,e,F,C,h=>by
   unfold chk at h
   split at h
   · simp only[Bool.and_eq_true,decide_eq_true_eq] at h
     obtain⟨⟨⟨⟨⟨e1,h1⟩,e2⟩,h2⟩,h3⟩,h4⟩:=h
     subst e1 e2
     exact all_gen rfl (Zmr F C h1 h2 h3 (Zh a c X _ F C h4).ex)
   · cases h
 | .bi f as,c,X,e,F,C,h=>by
   by_cases h1:f=.lrange1
   · subst h1
     unfold chk at h
     dsimp only at h
     split at h
     · split at h
       · next a=>
         simp only[Bool.and_eq_true,decide_eq_true_eq] at h
         obtain⟨⟨⟨⟨⟨e1,h1⟩,e2⟩,h2⟩,h3⟩,h4⟩:=h
         subst e1 e2
         exact all_gen rfl (Zms F C h1 h2 h3 (Zh a c X _ F C h4).ex)
       · cases h
     · cases h
   · by_cases h2:f=.lrange2
     · subst h2
       unfold chk at h
       dsimp only at h
       split at h
       · split at h
         · next a b=>
           simp only[Bool.and_eq_true,decide_eq_true_eq] at h
           obtain⟨⟨⟨⟨⟨⟨⟨e1,h1⟩,e2⟩,h2⟩,h3⟩,h4⟩,h5⟩,h6⟩:=h
           subst e1 e2
           exact all_gen rfl (Zmt F C h1 h2 h3 h4 (Zh a c X _ F C h5).ex (Zh b c X _ F C h6).ex)
         · cases h
       · cases h
     · have:∃g p x es pos,e=.Call (.Name g p) (x :: es) [] pos∧g=X7 f∧gloC c g=true∧chks c as (x :: es)=true:=by
        unfold chk at h
        cases f <;> first | exact(h1 rfl).elim | exact(h2 rfl).elim | skip
        all_goals
         dsimp only at h
         split at h
         · simp only[Bool.and_eq_true,decide_eq_true_eq] at h
           exact⟨_,_,_,_,_,rfl,h.1.1,h.1.2,h.2⟩
         · cases h
       obtain⟨g,p,x,es,pos,rfl,rfl,hg,hk⟩:=this
       exact all_gen rfl (Zma F C h1 h2 hg hk (ZR _ _ (ZU as c X _ F C hk)))
 | .ix a i,c,X,e,F,C,h=>by
   unfold chk at h
   split at h
   · simp only[Bool.and_eq_true] at h
     exact all_gen rfl (ZoP F.hu h.2 (Zh a c X _ F C h.1.1).ex (Zh i c X _ F C h.1.2).ex)
   · cases h
 | .sl lo hi a as,c,X,e,F,C,h=>by
   unfold chk at h
   split at h
   · simp only[Bool.and_eq_true] at h
     obtain⟨h1,h2⟩:=h
     have A:=(Zh a c X _ F C h1).ex
     split at h2
     · have L:=ZU as c X _ F C h2
       cases as with
       | nil=>exact all_gen rfl (ZkP A)
       | cons _ _=>exact L.elim
     · have L:=ZU as c X _ F C h2
       cases as with
       | nil=>exact L.elim
       | cons l r=>cases r with
         | nil=>exact all_gen rfl (ZkR A L.2.1)
         | cons _ _=>exact L.2.2.elim
     · have L:=ZU as c X _ F C h2
       cases as with
       | nil=>exact L.elim
       | cons l r=>cases r with
         | nil=>exact all_gen rfl (ZkQ A L.2.1)
         | cons _ _=>exact L.2.2.elim
     · have L:=ZU as c X _ F C h2
       cases as with
       | nil=>exact L.elim
       | cons l r=>cases r with
         | nil=>exact L.2.2.elim
         | cons l2 r=>cases r with
           | nil=>exact all_gen rfl (ZkS A L.2.1 L.2.2.2.1)
           | cons _ _=>exact L.2.2.2.2.elim
     · cases h2
   · cases h
 | .call f as,c,X,e,F,C,h=>by
   unfold chk at h
   split at h
   · simp only[Bool.and_eq_true,decide_eq_true_eq,Bool.not_eq_true'] at h
     obtain⟨⟨⟨e1,h1⟩,h2⟩,h3⟩:=h
     subst e1
     exact all_gen rfl (ZkH F C h1 h2 h3 (ZR _ _ (ZU as c X _ F C h3)))
   · cases h
 | .comp s as own tg cs el,c,X,e,F,C,h=>by
   obtain⟨elt,t,iter,ifs,scope,pos,rfl,hl,hp,hs,hb,hsl,ht,hc,he⟩:=Zaz h
   have ok:BlkOk X.N X.env.scope scope (ownC c.N own):=by rw[C.n,C.sc];exact blkOk_by hb
   have FB:∀s0 H0 C0 cl' fp,XF Γ cl k (Yh X scope s0 H0 C0 cl' fp):=fun _ _ _ _ _=>Ziu F
   have CB:∀s0 H0 C0 cl' fp,XC ⟨c.N,relS scope c.sc,fun x=>scope.names.lookup x == some .cell⟩ (Yh X scope s0 H0 C0 cl' fp):=fun _ _ _ _ _=>Zit C
   have E:∀s0 H0 C0 cl' fp,DE Γ cl (Yh X scope s0 H0 C0 cl' fp) elt el:=fun s0 H0 C0 cl' fp=>(Zh el _ _ elt (FB s0 H0 C0 cl' fp) (CB s0 H0 C0 cl' fp) he).ex
   have G:∀s0 H0 C0 cl' fp,PG (Yh X scope s0 H0 C0 cl' fp) t (gT X.K tg):=fun s0 H0 C0 cl' fp=>Qw (FB s0 H0 C0 cl' fp) (CB s0 H0 C0 cl' fp) tg t ht
   have go:∀(wi:TI),ifs.length≤1→IfsD Γ cl X scope ifs cs→PI X t iter wi→SrcR Γ cl X s as wi→All3 Γ cl X (.ListComp elt [⟨t,iter,ifs,0⟩] scope pos) (.comp s as own tg cs el):=
    fun wi h1 hd hi hsrc=>all_gen rfl (ZkI F hp hi hsrc ok (Zfn c.N own) hsl G h1 hd E)
   have hd:IfsD Γ cl X scope ifs cs:=Zg9 cs _ scope ifs FB CB hl hc
   have go2:∀(wi:TI),PI X t iter wi→SrcR Γ cl X s as wi→All3 Γ cl X (.ListComp elt [⟨t,iter,ifs,0⟩] scope pos) (.comp s as own tg cs el):=fun wi hi hsrc=>go wi hl hd hi hsrc
   rcases hs with ⟨rfl,a,rfl,h1⟩ |⟨rfl,p,q,x,rfl,h1,h2⟩ |⟨rfl,p,q,x,y,rfl,h1,h2⟩ |⟨rfl,p,q,x,tt,tk,tp,rfl,rfl,h1,h2⟩ |⟨rfl,p,q,x,y,tt,tk,tp,rfl,rfl,h1,h2⟩ |⟨rfl,a,rfl,h1⟩
   · exact go2 _ (Zgc c_e) (ZdZ (Zh a c X _ F C h1).ex)
   · have L:=ZU as c X _ F C h2
     exact go2 _ (pi_range1 (ZE C h1) (F.blt _ (by decide +kernel)) c_a (Zg (dl1 L))) (XX (ZR _ _ L))
   · have L:=ZU as c X _ F C h2
     exact go2 _ (pi_range2 (ZE C h1) (F.blt _ (by decide +kernel)) c_a (by rw[Zg (dl2 L).1,Zg (dl2 L).2];rfl) (Zg (dl2 L).2)) (Uk (ZR _ _ L))
   · have L:=ZU as c X _ F C h2
     exact go2 _ (Zgb (ZE C h1) (F.blt _ (by decide +kernel)) c_a (Zg (dl1 L))) (Zam (ZR _ _ L))
   · have L:=ZU as c X _ F C h2
     exact go2 _ (Zge (ZE C h1) (F.blt _ (by decide +kernel)) c_a (Zg (dl2 L).1) (by rw[Zg (dl2 L).2];rfl)) (Zbw (ZR _ _ L))
   · exact go2 _ (Zgd c_e) (Zan (Zh a c X _ F C h1).ex)
 | .meth m o as,c,X,e,F,C,h=>by
   unfold chk at h
   split at h
   · simp only[Bool.and_eq_true,decide_eq_true_eq] at h
     obtain⟨⟨⟨⟨⟨h1,h2⟩,h3⟩,h4⟩,h5⟩,h6⟩:=h
     subst h1
     exact all_gen rfl (ZkN h2 h3 h4 (Zh o c X _ F C h5).ex h6 (ZR _ _ (ZU as c X _ F C h6)))
   · cases h
 | .own a,c,X,e,F,C,h=>by
   unfold chk at h
   simp only[Bool.and_eq_true] at h
   exact all_gen h.1.2 (Zmw h.1.1 (Zh a c X _ F C h.2).ex)
 | .frz a,c,X,e,F,C,h=>by
   unfold chk at h
   simp only[Bool.and_eq_true] at h
   exact all_gen h.1 (Zmq (Zh a c X _ F C h.2).ex)
 | .rev a,c,X,e,F,C,h=>by
   unfold chk at h
   split at h
   · simp only[Bool.and_eq_true,decide_eq_true_eq] at h
     obtain⟨h1,h2⟩:=h
     subst h1
     exact all_gen rfl (Zmx (Zh a c X _ F C h2).ex)
   · cases h
 | .isat ts a,c,X,e,F,C,h=>by
   unfold chk at h
   split at h
   · simp only[Bool.and_eq_true,decide_eq_true_eq] at h
     obtain⟨⟨⟨⟨h1,h2⟩,h0,h3⟩,h4⟩,h5⟩:=h
     subst h1
     exact all_gen rfl (ZkL F C h2 h0 h3 h4 (Zh a c X _ F C h5).ex)
   · cases h
 | .lset a,c,X,e,F,C,h=>by
   unfold chk at h
   split at h
   · simp only[Bool.and_eq_true,decide_eq_true_eq] at h
     obtain⟨⟨⟨⟨⟨e1,h1⟩,e2⟩,h2⟩,h3⟩,h4⟩:=h
     subst e1 e2
     exact all_gen rfl (ZkM F C h1 h2 h3 (Zh a c X _ F C h4).ex)
   · cases h
 | .sset a,c,X,e,F,C,h=>by
   unfold chk at h
   split at h
   · simp only[Bool.and_eq_true,decide_eq_true_eq] at h
     obtain⟨⟨⟨⟨⟨e1,h1⟩,e2⟩,h2⟩,h3⟩,h4⟩:=h
     subst e1 e2
     exact all_gen rfl (ZkT F C h1 h2 h3 (Zh a c X _ F C h4).ex)
   · cases h
 | .at a f,c,X,e,F,C,h=>by
   unfold chk at h
   split at h
   · simp only[Bool.and_eq_true,decide_eq_true_eq] at h
     obtain⟨⟨e1,h1⟩,h2⟩:=h
     subst e1
     exact all_gen rfl (ZoO F h1 (Zh a c X _ F C h2).ex)
   · cases h
 | .tel m o as,c,X,e,F,C,h=>by
   unfold chk at h
   split at h
   · next eo nm ap x es cp=>
     simp only[Bool.and_eq_true,decide_eq_true_eq] at h
     obtain⟨⟨⟨⟨⟨⟨h1,h2⟩,h3⟩,h4⟩,h5⟩,h6⟩,h7⟩:=h
     subst h1
     have O:=(Zh o c X _ F C h5).ex
     have L:=ZU as c X _ F C h6
     cases m with
     | lindex=>exact all_gen rfl (ZgX (m:=.lindex) F h2 h3 h4 O h6 trivial (ZR _ _ L))
     | tindex=>exact all_gen rfl (ZgY F h2 h3 h4 O h6 (ZR _ _ L))
     | lcount=>exact all_gen rfl (ZgX (m:=.lcount) F h2 h3 h4 O h6 trivial (ZR _ _ L))
     | get1=>
       cases es with
       | cons _ _=>cases h7
       | nil=>
         cases as with
         | nil=>exact L.elim
         | cons a r=>cases r with
           | nil=>exact all_gen rfl (ZkJ F h2 h3 (dl1 L) O L.2.1 h6)
           | cons _ _=>exact L.2.2.elim
     | get2=>
       rcases es with _ |⟨y,_ |⟨_,_⟩⟩
       · cases h7
       · cases as with
         | nil=>exact L.elim
         | cons a r=>cases r with
           | nil=>exact L.2.2.elim
           | cons b r=>cases r with
             | nil=>exact all_gen rfl (ZkK F h2 h3 (dl2 L).1 (dl2 L).2 O L.2.1 L.2.2.2.1 h6)
             | cons _ _=>exact L.2.2.2.2.elim
       · simp at h7
   · cases h
 | .mutv m o as,c,X,e,F,C,h=>by
   unfold chk at h
   split at h
   · simp only[Bool.and_eq_true,decide_eq_true_eq] at h
     obtain⟨⟨⟨⟨⟨⟨h0,h1⟩,h2⟩,h3⟩,h4⟩,h5⟩,h6⟩:=h
     subst h1
     have hm:m=.pop∨m=.popAt:=by cases m <;> first | exact .inl rfl | exact .inr rfl | cases h0
     exact all_gen rfl (ZkO hm h2 h3 h4 (Zh o c X _ F C h5).ex h6 (ZR _ _ (ZU as c X _ F C h6)))
   · cases h
 | .mcall o m as,c,X,e,F,C,h=>by
   unfold chk at h
   split at h
   · simp only[Bool.and_eq_true,decide_eq_true_eq] at h
     obtain⟨⟨⟨⟨⟨h1,h2⟩,h3⟩,h4⟩,h5⟩,h6⟩:=h
     subst h1
     exact all_gen rfl (ZiO F h2 h3 h4 (Zh o c X _ F C h5).ex h6 (ZR _ _ (ZU as c X _ F C h6)))
   · cases h
 | .mk n as,c,X,e,F,C,h=>by
   unfold chk at h
   split at h
   · simp only[Bool.and_eq_true,decide_eq_true_eq,Bool.not_eq_true'] at h
     obtain⟨⟨⟨e1,h1⟩,h2⟩,h3⟩:=h
     subst e1
     exact all_gen rfl (ZoR F C h1 h2 h3 (ZR _ _ (ZU as c X _ F C h3)))
   · cases h
 | .unr,c,X,e,F,C,h=>by
   unfold chk at h
   exact all_gen h Zmz
 | .lk i a,c,X,e,F,C,h=>by
   unfold chk at h
   rw[Bool.and_eq_true] at h
   exact all_gen h.1 (ZoQ (Zh a c X _ F C h.2).ex)
theorem Zg9 {X:Cx}:∀(cs:Ms)(c:Cd)(scope:Scope)(ifs:List Expr),(∀s0 H0 C0 cl' fp,XF Γ cl k (Yh X scope s0 H0 C0 cl' fp))→(∀s0 H0 C0 cl' fp,XC c (Yh X scope s0 H0 C0 cl' fp))→ifs.length≤1→chks c cs ifs=true→IfsD Γ cl X scope ifs cs
 | .nil,c,scope,ifs,F,C,hl,h=>by
   unfold chks at h
   cases ifs with
   | nil=>trivial
   | cons _ _=>cases h
 | .cons m .nil,c,scope,ifs,F,C,hl,h=>by
   unfold chks chks at h
   cases ifs with
   | nil=>cases h
   | cons i1 ifs=>
     cases ifs with
     | nil=>
       simp only[Bool.and_eq_true] at h
       exact fun s0 H0 C0 cl' fp=>(Zh m c _ i1 (F s0 H0 C0 cl' fp) (C s0 H0 C0 cl' fp) h.1.2).te
     | cons _ _=>simp at hl
 | .cons m (.cons m2 r),c,scope,ifs,F,C,hl,h=>by
   exfalso
   unfold chks chks at h
   cases ifs with
   | nil=>cases h
   | cons i1 ifs=>
     cases ifs with
     | nil=>simp at h
     | cons _ _=>simp at hl
theorem ZU:∀(as:Ms)(c:Cd)(X:Cx)(es:List Expr),XF Γ cl k X→XC c X→chks c as es=true→DL Γ cl X es as
 | .nil,c,X,es,F,C,h=>by
   unfold chks at h
   cases es with
   | nil=>trivial
   | cons _ _=>cases h
 | .cons a r,c,X,es,F,C,h=>by
   unfold chks at h
   cases es with
   | nil=>cases h
   | cons e es=>
     simp only[Bool.and_eq_true] at h
     exact⟨h.1.1,(Zh a c X e F C h.1.2).ex,ZU r c X es F C h.2⟩
end
end
end Sw
namespace Sw
open PySem PySem.Spec PyProof.Rows L2
def Vu:Expr→Bool
 | .ListComp ..=>true
 | .SetComp ..=>true
 | .DictComp ..=>true
 | _=>false
def swOk (c:Cd)(x:Str)(py:Pos)(e:Expr):Bool:=match e with
 | .ListComp _ _ scope pos=>(py.line == pos.line) && decide (c.sc.names.lookup x=some .local) && decide (c.sc.kind=.function) && !(scope.names.any fun(n,k)=>n == x && (k == .local || k == .cell))
 | _=>false
def swNo (c:Cd)(x:Str)(py:Pos)(e:Expr):Bool:=match e with
 | .ListComp _ _ scope pos=>!(py.line == pos.line) || decide (c.sc.names.lookup x≠some .local) || (scope.names.any fun(n,k)=>n == x && (k == .local || k == .cell))
 | .SetComp ..=>false
 | .DictComp ..=>false
 | _=>true
def Zhg:Expr→Bool
 | .Tuple ..=>true
 | _=>false
def ZjT:M→M
 | .own a=>a
 | m=>m
def Ze8:M→Bool
 | .comp ..=>true
 | _=>false
def Zm3:C→Bool
 | .wipe _=>true
 | .fre _=>true
 | _=>false
mutual
def chkC (c:Cd):C→Stmt→Bool
 | .asg tg m,st=>match st with
   | .Assign [t] e _=>chk c m e && (match t with
     | .Name x py=>(match tg with
       | .nm i=>decide (c.N[i]?=some x) && locC c x && (swNo c x py e || (swOk c x py e && Ze8 (ZjT m)))
       | _=>false)
     | .Tuple ts _ _=>!Vu e && chkT c tg t && (!Zhg e || (match ts with
       | [.Name x _,.Name y _]=>decide (c.sc.names.lookup x≠some .local) || decide (c.sc.names.lookup y≠some .local)
       | _=>false))
     | _=>false)
   | _=>false
 | .par i j a b,st=>match st with
   | .Assign [.Tuple [.Name x px,.Name y py] _ _] (.Tuple [e,f] _ _) _=>decide (c.N[i]?=some x) && decide (c.N[j]?=some y) && decide (i≠j) && !(x == y) && !(y == x) && decide (c.sc.kind=.function) && decide (c.sc.names.lookup x=some .local) && decide (c.sc.names.lookup y=some .local)
     && (px.line == py.line) && !(foldedForSure 8 e && foldedForSure 8 f) && !(constantsAlone 8 e && constantsAlone 8 f) && Zi e && Zi f && chk c a e && chk c b f
   | _=>false
 | .aug i o m,st=>match st with
   | .AugAssign (.Name x _) op e _=>decide (op=o) && decide (c.N[i]?=some x) && locC c x && (match o with | .Add=>true | .Sub=>true | _=>false) && chk c m e
   | _=>false
 | .sub o i m,st=>match st with
   | .Assign [.Subscript eo ei _] e _=>Zi ei && chk c o eo && chk c i ei && chk c m e
   | _=>false
 | .sat o f m,st=>match st with
   | .Assign [.Attribute eo n ap] e _=>decide (n=f) && chk c o eo && chk c m e
   | _=>false
 | .dpop o k d,st=>match st with
   | .Expr (.Call (.Attribute eo nm ap) [x,y] [] cp) _=>decide (nm = "pop") && Yo eo && (ap.endLine == cp.line) && chk c o eo && Zi x && Zi y && chk c k x && chk c d y
   | _=>false
 | .exp m,st=>match st with
   | .Expr e _=>!Vu e && chk c m e
   | _=>false
 | .mut mu o as,st=>match st with
   | .Expr (.Call (.Attribute eo nm ap) es [] cp) _=>decide (nm=Vx mu) && Yo eo && (ap.endLine == cp.line) && chk c o eo && chks c as es && decide (es.length≤20)
   | _=>false
 | .ret m,st=>match st with
   | .Return (some e) _=>chk c m e
   | _=>false
 | .retN,st=>match st with
   | .Return none _=>true
   | _=>false
 | .pass,st=>match st with
   | .Pass _=>true
   | _=>false
 | .ifs m a b,st=>match st with
   | .If e p q _=>chk c m e && Z5 c a p && Z5 c b q
   | _=>false
 | .for s as tg body,st=>match st with
   | .For t iter p [] _=>Zi iter && (match s with
      | .it=>(match as with | .cons a .nil=>chk c a iter | _=>false)
      | .keys=>(match as with | .cons a .nil=>chk c a iter | _=>false)
      | .rng1=>(match iter with | .Call (.Name h _) [x] [] _=>decide (h = "range") && gloC c h && chks c as [x] | _=>false)
      | .rng2=>(match iter with | .Call (.Name h _) [x,y] [] _=>decide (h = "range") && gloC c h && chks c as [x,y] | _=>false)
      | .enum=>(match t,iter with | .Tuple ..,.Call (.Name h _) [x] [] _=>decide (h = "enumerate") && gloC c h && chks c as [x] | _,_=>false)
      | .zip=>(match t,iter with | .Tuple ..,.Call (.Name h _) [x,y] [] _=>decide (h = "zip") && gloC c h && chks c as [x,y] | _,_=>false))
     && chkT c tg t && Z5 c body p
   | _=>false
 | .while m body,st=>match st with
   | .While e p [] _=>chk c m e && Z5 c body p
   | _=>false
 | .wipe _,_=>false
 | .fre _,_=>false
 | .unr,_=>true
def Z5 (c:Cd):Cs→List Stmt→Bool
 | .nil,sts=>match sts with | []=>true | _=>false
 | .cons a r,sts=>if Zm3 a=true then Z5 c r sts else match sts with | st :: sts=>chkC c a st && Z5 c r sts | _=>false
end
def Yz (K:PySem.W.Frag)(cl:ClsT)(E:YM)(H:Hp)(S:Za)(P:Addr→Prop):Ends where
 nx:=fun σ' H'=>∃ρ' S',Le H S P H' S'∧RS K cl H' S' P∧REnv K H' S' P σ' ρ'∧E.nx ρ' S'
 rt:=lift K cl false E.rt H S P
def DS (Γ:Gam)(cl:ClsT)(X:Cx)(st:Stmt)(c:C):Prop:=∀σ H ρ S P E,RS X.K cl H S P→REnv X.K H S P σ ρ→wC Γ c E ρ S→cS X st (Yz X.K cl E H S P) σ H
def DSs (Γ:Gam)(cl:ClsT)(X:Cx)(sts:List Stmt)(c:Cs):Prop:=∀σ H ρ S P E,RS X.K cl H S P→REnv X.K H S P σ ρ→wCs Γ c E ρ S→cSs X sts (Yz X.K cl E H S P) σ H
section
variable {Γ:Gam}{cl:ClsT}{k:Nat}{X:Cx}{c:Cd}
theorem ZkC {st:Stmt}{σ:L2.St}{H:Hp}{D D':Ends}(h:cS X st D σ H)(h1:∀σ H,D.nx σ H→D'.nx σ H)(h2:∀v H,D.rt v H→D'.rt v H)(h3:∀σ H,D.bk σ H→D'.bk σ H)(h4:∀σ H,D.ct σ H→D'.ct σ H):cS X st D' σ H:=
 fun pins s I=>thn (h pins s I) fun f s' q=>Zfv q h1 h2 h3 h4
theorem VT {st:List Stmt}{σ:L2.St}{H:Hp}{D D':Ends}(h:cSs X st D σ H)(h1:∀σ H,D.nx σ H→D'.nx σ H)(h2:∀v H,D.rt v H→D'.rt v H)(h3:∀σ H,D.bk σ H→D'.bk σ H)(h4:∀σ H,D.ct σ H→D'.ct σ H):cSs X st D' σ H:=
 fun pins s I=>thn (h pins s I) fun f s' q=>Zfv q h1 h2 h3 h4
theorem Ze3 {E:YM}{H H1:Hp}{S S1:Za}{P:Addr→Prop}(le:Le H S P H1 S1):(∀σ H',(Yz X.K cl E H1 S1 P).nx σ H'→(Yz X.K cl E H S P).nx σ H')∧∀v H',(Yz X.K cl E H1 S1 P).rt v H'→(Yz X.K cl E H S P).rt v H':=
 ⟨fun σ H' ⟨ρ',S',l,rs,re,q⟩=>⟨ρ',S',le.trans l,rs,re,q⟩,fun v H' l=>YU (Ye le l) rfl⟩
theorem Zay {st:List Stmt}{σ:L2.St}{E:YM}{H H0 H1:Hp}{S S1:Za}{P:Addr→Prop}(le:Le H S P H1 S1)(h:cSs X st (Yz X.K cl E H1 S1 P) σ H0):cSs X st (Yz X.K cl E H S P) σ H0:=
 VT h (Ze3 le).1 (Ze3 le).2 (fun _ _ z=>z.elim) fun _ _ z=>z.elim
theorem Zk0:DSs Γ cl X [] .nil:=by
 intro σ H ρ S P E rs re h
 unfold wCs at h
 exact ZgR pss_nil ⟨ρ,S,Le.refl rs,rs,re,h⟩
theorem ZiT {st:Stmt}{sts:List Stmt}{a:C}{r:Cs}(ha:DS Γ cl X st a)(hr:DSs Γ cl X sts r):DSs Γ cl X (st :: sts) (.cons a r):=by
 intro σ H ρ S P E rs re h
 unfold wCs at h
 refine ZgR (pss_cons c_s c_ss) ?_
 refine ZkC (ha σ H ρ S P _ rs re h) (fun σ' H' ⟨ρ',S',le,rs',re',q⟩=>?_) (fun v H' l=>l) (fun _ _ z=>z.elim) fun _ _ z=>z.elim
 exact Zay le (hr σ' H' ρ' S' P E rs' re' q)
theorem Zcf (ρ:DEnv):∀(vs:List Nat)(i:Nat)(d:D),(wipeD ρ vs)[i]?=some (some d)→ρ[i]?=some (some d)
 | [],_,_,h=>h
 | v :: vs,i,d,h=>by
   unfold wipeD at h
   rw[List.getElem?_set] at h
   split at h
   · split at h <;> cases h
   · exact Zcf ρ vs i d h
theorem Zbb (ρ:DEnv):∀vs:List Nat,(wipeD ρ vs).length=ρ.length
 | []=>rfl
 | v :: vs=>by unfold wipeD;rw[List.length_set,Zbb ρ vs]
theorem REnv.wipeD {K:PySem.W.Frag}{H:Hp}{S:Za}{P:Addr→Prop}{σ:L2.St}{ρ:DEnv}(e:REnv K H S P σ ρ)(is:List Nat):REnv K H S P σ (Sw.wipeD ρ is):=
 ⟨by rw[Zbb];exact e.1,fun i d h=>e.2 i d (Zcf ρ is i d h)⟩
theorem ZiU {sts:List Stmt}{is:List Nat}{r:Cs}(hr:DSs Γ cl X sts r):DSs Γ cl X sts (.cons (.wipe is) r):=by
 intro σ H ρ S P E rs re h
 unfold wCs wC at h
 exact hr σ H (wipeD ρ is) S P E rs (re.wipeD is) h
theorem ZkZ {sts:List Stmt}{i:Nat}{r:Cs}(hr:DSs Γ cl X sts r):DSs Γ cl X sts (.cons (.fre i) r):=by
 intro σ H ρ S P E rs re h
 unfold wCs wC at h
 split at h
 · next p hp=>
   have sub:∀a o,sdel S p a=some o→S a=some o:=fun a o=>Uh
   have rs':=rs.drop sub
   have le:=Le.drop rs sub
   obtain⟨v,hv,rv⟩:=re.2 i _ hp
   cases rv with
   | obj _=>
   have key:∀d,Rep X.K H (sdel S p) P (.ref p) d→wCs Γ r E (ρ.set i (some d)) (sdel S p)→cSs X sts (Yz X.K cl E H S P) σ H:=by
    intro d rd h
    refine Zay le (hr σ H (ρ.set i (some d)) (sdel S p) P E rs' ⟨by rw[List.length_set];exact re.1,fun j e hj=>?_⟩ h)
    rw[List.getElem?_set] at hj
    split at hj
    · next hij=>
      subst hij
      split at hj
      · cases hj
        exact⟨_,hv,rd⟩
      · cases hj
    · obtain⟨u,hu,ru⟩:=re.2 j e hj
      exact⟨u,hu,Rep.le rs le _ ru⟩
   split at h
   · next ds e=>exact key _ (rs.freeze e) h
   · next kvs e=>exact key _ (rs.freezeD e) h
   · exact h.elim
 · exact h.elim
theorem ZmK {st:Stmt}:DS Γ cl X st .unr:=by
 intro σ H ρ S P E rs re h
 unfold wC at h
 exact h.elim
theorem ZmH {e:Expr}{m:M}{pos:Pos}(h:DE Γ cl X e m):DS Γ cl X (.Return (some e) pos) (.ret m):=by
 intro σ H ρ S P E rs re hw
 unfold wC at hw
 exact YH (ps_ret c_e) (Ze (h σ H ρ S P _ rs re hw) fun v H' l=>YU l rfl)
theorem ZkY {pos:Pos}:DS Γ cl X (.Return none pos) .retN:=by
 intro σ H ρ S P E rs re hw
 unfold wC at hw
 exact YH ps_retN (Zw (Le.refl rs) rs .non hw (.inr rfl))
theorem ZkX {pos:Pos}:DS Γ cl X (.Pass pos) .pass:=by
 intro σ H ρ S P E rs re hw
 unfold wC at hw
 exact YH ps_pass ⟨ρ,S,Le.refl rs,rs,re,hw⟩
theorem ZoT {e:Expr}{p q:List Stmt}{m:M}{a b:Cs}{pos:Pos}(h:DT Γ cl X e m)(ha:DSs Γ cl X p a)(hb:DSs Γ cl X q b):DS Γ cl X (.If e p q pos) (.ifs m a b):=by
 intro σ H ρ S P E rs re hw
 unfold wC at hw
 refine YH (ps_if c_t c_ss c_ss) ?_
 refine Y9 (h σ H ρ S P _ rs re hw) fun t H1 ⟨S1,le,rs1,q⟩=>?_
 cases t with
 | true=>exact Zay le (ha σ H1 ρ S1 P E rs1 (re.le rs le) q)
 | false=>exact Zay le (hb σ H1 ρ S1 P E rs1 (re.le rs le) q)
theorem Zfl {e:Expr}{tg:Option Expr}{l:Nat}{env:Env}(h:Vu e=false):swapsWith e tg l env=pure false:=by
 cases e <;> first | rfl | cases h
theorem ZmE {e:Expr}{m:M}{pos:Pos}(hc:Vu e=false)(h:DE Γ cl X e m):DS Γ cl X (.Expr e pos) (.exp m):=by
 intro σ H ρ S P E rs re hw
 unfold wC at hw
 refine YH (ps_expr c_e (Zfl hc)) ?_
 exact Ze (h σ H ρ S P _ rs re hw) fun v H1 ⟨d,S1,le,rs1,r,q,_⟩=>⟨ρ,S1,le,rs1,re.le rs le,q⟩
theorem Znw {e:Expr}{ts:List Expr}{kk:Nat}{tp:Pos}{env:Env}(h:Zhg e=false):swappedStores [.Tuple ts kk tp] e env=pure none:=by
 cases e <;> first | rfl | cases h
theorem ZkV {e:Expr}{ts:List Expr}{kk:Nat}{tp pos:Pos}{tg:Tg}{m:M}(F:XF Γ cl k X)(C:XC c X)(ht:chkT c tg (.Tuple ts kk tp)=true)(hc:Vu e=false)(hw:swappedStores [.Tuple ts kk tp] e X.env=pure none)(h:DE Γ cl X e m):DS Γ cl X (.Assign [.Tuple ts kk tp] e pos) (.asg tg m):=by
 intro σ H ρ S P E rs re hq
 unfold wC at hq
 refine YH (ps_asg c_e (Qw F C tg _ ht) (by show swapsWith e (some (.Tuple ts kk tp)) pos.line X.env=_;exact Zfl hc) hw (by rfl)) ?_
 refine Ze (h σ H ρ S P _ rs re hq) fun v H1 ⟨d,S1,le,rs1,r,q,_⟩=>?_
 cases es:setT tg d ρ with
 | none=>
   have q:(match setT tg d ρ with | some ρ'=>E.nx ρ' S1 | none=>False):=q
   rw[es] at q;exact q.elim
 | some ρ'=>
   have q:(match setT tg d ρ with | some ρ'=>E.nx ρ' S1 | none=>False):=q
   rw[es] at q
   exact QA tg r (re.le rs le) es fun σ' re' _=>⟨ρ',S1,le,rs1,re',q⟩
def DN (Γ:Gam)(cl:ClsT)(X:Cx)(x:Str)(py:Pos)(e:Expr)(pos:Pos)(i:Nat)(m:M):Prop:=∀σ H ρ S P Q,RS X.K cl H S P→REnv X.K H S P σ ρ→wE Γ m ρ S Q→∀D:Ends,(∀v H',lift X.K cl (Vs m) Q H S P v H'→D.nx (σ.set i (some v)) H')→cS X (.Assign [.Name x py] e pos) D σ H
theorem ZmA {x:Str}{py pos:Pos}{e:Expr}{i:Nat}{m:M}(F:XF Γ cl k X)(C:XC c X)(hi:c.N[i]?=some x)(hl:locC c x=true)(hs:swapsWith e (some (.Name x py)) pos.line X.env=pure false)(h:DE Γ cl X e m):DN Γ cl X x py e pos i m:=by
 intro σ H ρ S P Q rs re hw D hD
 obtain⟨h1,h2⟩:=Zd9 C hl
 refine YH (ps_set F.nd (by rw[C.n];exact hi) h1 c_e hs h2) ?_
 exact Ze (h σ H ρ S P _ rs re hw) fun v H1 l=>hD v H1 l
theorem ZmB {x:Str}{py pos:Pos}{e:Expr}{i:Nat}{a:M}(hf:Vs a=true)(h:DN Γ cl X x py e pos i a):DN Γ cl X x py e pos i (.own a):=by
 intro σ H ρ S P Q rs re hw D hD
 unfold wE at hw
 refine h σ H ρ S P _ rs re hw D fun v H1 ⟨d,S1,le1,rs1,r,q,o⟩=>hD v H1 ?_
 cases d with
 | lst ds=>
   obtain⟨p,e1,e2,e3,e4⟩:=o hf _ rfl
   subst e1
   exact⟨.obj p,_,e3,e4,.obj p,q p e2,fun e=>by cases e⟩
 | dic ks ds=>
   obtain⟨p,e1,e2,e3,e4⟩:=o hf _ rfl
   subst e1
   exact⟨.obj p,_,e3,e4,.obj p,q p e2,fun e=>by cases e⟩
 | _=>exact q.elim
theorem ZkU {x:Str}{py pos:Pos}{e:Expr}{i:Nat}{m:M}(h:DN Γ cl X x py e pos i m):DS Γ cl X (.Assign [.Name x py] e pos) (.asg (.nm i) m):=by
 intro σ H ρ S P E rs re hw
 unfold wC at hw
 refine h σ H ρ S P _ rs re hw _ fun v H1 ⟨d,S1,le,rs1,r,q,_⟩=>?_
 have q:(match setT (.nm i) d ρ with | some ρ'=>E.nx ρ' S1 | none=>False):=q
 unfold setT at q
 exact⟨ρ.set i (some d),S1,le,rs1,(re.le rs le).set i r,q⟩
theorem ZpQ (C:XC c X){x:Str}{py:Pos}{e:Expr}{l:Nat}(h:swNo c x py e=true):swapsWith e (some (.Name x py)) l X.env=pure false:=by
 cases e with
 | ListComp elt gs scope pos=>
   have h:(!(py.line == pos.line) || decide (c.sc.names.lookup x≠some .local) || (scope.names.any fun(n,k)=>n == x && (k == .local || k == .cell)))=true:=h
   have ky:X.env.kindOf x=c.sc.names.lookup x:=by rw[← C.sc];rfl
   show(pure (X.env.blockKind == .function && X.env.kindOf x == some .local && py.line == pos.line && !(scope.names.any fun(n,k)=>n == x && (k == .local || k == .cell))):Sem Bool)=pure false
   rw[ky]
   congr 1
   rw[Bool.or_eq_true,Bool.or_eq_true] at h
   rcases h with (h | h) | h
   · rw[Bool.not_eq_true'] at h
     rw[h,Bool.and_false,Bool.false_and]
   · have h:=of_decide_eq_true h
     have:(c.sc.names.lookup x == some .local)=false:=by
      rw[Bool.eq_false_iff];intro z;exact h (eq_of_beq z)
     rw[this,Bool.and_false,Bool.false_and,Bool.false_and]
   · rw[h,Bool.not_true,Bool.and_false]
 | SetComp=>cases h
 | DictComp=>cases h
 | _=>rfl
end
end Sw
namespace Sw
open PySem PySem.Spec PyProof.Rows L2
section
variable {Γ:Gam}{cl:ClsT}{k:Nat}{X:Cx}{c:Cd}
def ZcH:Expr→Bool
 | .Starred ..=>true
 | _=>false
def nmsE (env:Env)(l:Nat)(ts:List Expr):List Str:=ts.filterMap fun t=>match t with
 | .Name id pos=>if env.kindOf id == some .local && pos.line == l then some id else none
 | _=>none
theorem ZjI {x y:Str}{px py tp ep:Pos}{kk k2:Nat}{e f:Expr}{env:Env}(hk:env.scope.kind=.function)(hx:env.scope.names.lookup x=some .local)(hy:env.scope.names.lookup y=some .local)(hl:(px.line == py.line)=true)(hxy:(x == y)=false)(hyx:(y == x)=false)
  (h1:(foldedForSure 8 e && foldedForSure 8 f)=false) (h2:(constantsAlone 8 e && constantsAlone 8 f)=false) (pe:Zi e=true) (pf:Zi f=true) :
  swappedStores [.Tuple [.Name x px,.Name y py] kk tp] (.Tuple [e,f] k2 ep) env=pure (some [x,y]):=by
 have kx:env.kindOf x=some .local:=hx
 have ky:env.kindOf y=some .local:=hy
 have hb:env.blockKind=.function:=by unfold Env.blockKind;rw[hk];rfl
 have hl':py.line=px.line:=(eq_of_beq hl).symm
 have se:∀e:Expr,Zi e=true→ZcH e=false:=fun e h=>by cases e <;> first | rfl | cases h
 have names:nmsE env px.line [Expr.Name x px,Expr.Name y py]=[x,y]:=by
  unfold nmsE
  simp[kx,ky,hl']
 have dups:[x,y].eraseDups=[x,y]:=by
  have h0:∀z:Str,[z].eraseDups=[z]:=fun z=>by rw[List.eraseDups_cons];rfl
  rw[List.eraseDups_cons]
  have:([y].filter fun b=>!(b == x))=[y]:=by simp[List.filter,hyx]
  rw[this,h0]
 have key:swappedStores [.Tuple [.Name x px,.Name y py] kk tp] (.Tuple [e,f] k2 ep) env=(if(env.blockKind != .function)=true then pure none else if(ZcH e || (ZcH f || false))=true then pure none else
   if((nmsE env px.line [Expr.Name x px,Expr.Name y py]).length != 2 || (nmsE env px.line [Expr.Name x px,Expr.Name y py]).eraseDups.length != (nmsE env px.line [Expr.Name x px,Expr.Name y py]).length)=true then pure none else
   if(foldedForSure 8 e && (foldedForSure 8 f && true))=true then pure none else
   if(constantsAlone 8 e && (constantsAlone 8 f && true))=true then(do unsupported "assign.tuple-of-constant-expressions:order-of-the-stores";pure (some (nmsE env px.line [Expr.Name x px,Expr.Name y py]))) else pure (some (nmsE env px.line [Expr.Name x px,Expr.Name y py]))):=rfl
 rw[key,names,dups,hb,se e pe,se f pf,Bool.and_true,Bool.and_true,h1,h2]
 rfl
theorem ZmG {i j:Nat}{x y:Str}{px py tp ep pos:Pos}{kk k2:Nat}{e f:Expr}{a b:M}(F:XF Γ cl k X)(C:XC c X)(hi:c.N[i]?=some x)(hj:c.N[j]?=some y)(hij:i≠j)(hk:c.sc.kind=.function)(hx:c.sc.names.lookup x=some .local)(hy:c.sc.names.lookup y=some .local)
  (hl:(px.line == py.line)=true) (hxy:(x == y)=false) (hyx:(y == x)=false) (h1:(foldedForSure 8 e && foldedForSure 8 f)=false) (h2:(constantsAlone 8 e && constantsAlone 8 f)=false) (pe:Zi e=true) (pf:Zi f=true) (ha:DE Γ cl X e a) (hb:DE Γ cl X f b) :
  DS Γ cl X (.Assign [.Tuple [.Name x px,.Name y py] kk tp] (.Tuple [e,f] k2 ep) pos) (.par i j a b):=by
 intro σ H ρ S P E rs re hq
 unfold wC at hq
 refine YH (ps_par F.calm F.nd (by rw[C.n];exact hi) (by rw[C.n];exact hj) hij (by rw[C.sc];exact hx) (by rw[C.sc];exact hy) (pa_cons c_e (pa_cons c_e pa_nil (Zg pf)) (Zg pe)) (ZjI (by rw[C.sc];exact hk) (by rw[C.sc];exact hx) (by rw[C.sc];exact hy) hl hxy hyx h1 h2 pe pf) rfl) ?_
 refine Ze (ha σ H ρ S P _ rs re hq) fun v H1 ⟨d,S1,le1,rs1,r,q,_⟩=>?_
 refine Ze (hb σ H1 ρ S1 P _ rs1 (re.le rs le1) q) fun w H2 ⟨d2,S2,le2,rs2,r2,q2,_⟩=>?_
 have q2:E.nx ((ρ.set i (some d)).set j (some d2)) S2:=q2
 exact⟨v,w,rfl,_,S2,le1.trans le2,rs2,(((re.le rs le1).le rs1 le2).set i (Rep.le rs1 le2 _ r)).set j r2,q2⟩
theorem ZmD {i:Nat}{x:Str}{px pos:Pos}{op:Operator}{e:Expr}{m:M}(F:XF Γ cl k X)(C:XC c X)(hi:c.N[i]?=some x)(hl:locC c x=true)(ho:(match op with | .Add=>true | .Sub=>true | _=>false)=true)(h:DE Γ cl X e m) :
  DS Γ cl X (.AugAssign (.Name x px) op e pos) (.aug i op m):=by
 intro σ H ρ S P E rs re hq
 unfold wC at hq
 obtain⟨h1,h2⟩:=Zd9 C hl
 split at hq
 · next a ea=>
   obtain⟨v,hv,rv⟩:=re.2 i _ ea
   cases rv
   have go:∀(ti:TIp)(f:Int→Int→Int),PIp X op ti→ti=ipI f→(wE Γ m ρ S fun y S1=>∃b,y=.int b∧E.nx (ρ.set i (some (.int (f a b)))) S1)→cS X (.AugAssign (.Name x px) op e pos) (Yz X.K cl E H S P) σ H:=by
    intro ti f hp ef hw
    subst ef
    refine YH (ps_aug F.nd (by rw[C.n];exact hi) h1 c_e hp h2) ?_
    refine⟨_,hv,Ze (h σ H ρ S P _ rs re hw) fun y H1 ⟨d,S1,le1,rs1,r1,⟨b,eb,q⟩,_⟩=>?_⟩
    subst eb
    cases r1
    exact⟨a,b,rfl,rfl,_,S1,le1,rs1,(re.le rs le1).set i (.int _),q⟩
   cases op with
   | Add=>
     refine go _ (fun i j=>i+j) ip_add rfl (cast ?_ hq)
     congr 1
     funext y S1
     cases y <;> simp
   | Sub=>
     refine go _ (fun i j=>i - j) ip_sub rfl (cast ?_ hq)
     congr 1
     funext y S1
     cases y <;> simp
   | _=>cases ho
 · exact hq.elim
theorem ZnX {S S':Za}{H:Hp}{P:Addr→Prop}{o i v:V}{dO dI dV:D}{Q:Hp→Prop}(rs:RS X.K cl H S P)(ro:Rep X.K H S P o dO)(ri:Rep X.K H S P i dI)(rv:Rep X.K H S P v dV)(h:subD S dO dI dV=some S')
  (hQ:∀H',Le H S P H' S'→RS X.K cl H' S' P→Q H'):rSetL o i v H Q∨rSetD o i v H Q:=by
 unfold subD at h
 cases dO with
 | obj a=>
   cases ro
   dsimp only at h
   split at h
   · next ds e=>
     obtain⟨np,xs,e1,q⟩:=rs.own a _ e
     cases dI with
     | int j=>
       cases ri
       dsimp only at h
       split at h
       · next hj=>
         cases h
         refine .inl ⟨a,xs,j,j.toNat,rfl,rfl,e1,?_,hQ _ (Le.put rs e) (rs.put e ?_)⟩
         · unfold ixN
           rw[if_pos hj.1,if_pos (by rw[q.length];exact hj.2)]
         · exact⟨xs.set j.toNat v,upd_same,Zb.le rs (Le.put rs e) _ (Zb.set _ q rv)⟩
       · cases h
     | _=>cases h
   · next kvs e=>
     split at h
     · next kk hk=>
       split at h
       · next hz=>
         cases h
         obtain⟨np,vs,hl,e1,nd,q⟩:=rs.own a _ e
         have ei:=Wo ri hk
         subst ei
         obtain⟨vs',l',e2,q',nd'⟩:=ZhU (k:=kk) rv q nd
         refine .inr ⟨a,_,rfl,DPut.k e1 (by rw[List.length_zip,List.length_map];omega),hQ _ (Le.put rs e) (rs.put e ?_)⟩
         exact⟨vs',l',by rw[upd_same,e2],nd',Zb.le rs (Le.put rs e) _ q'⟩
       · cases h
     · cases h
   · cases h
 | _=>cases h
theorem ZlC (hu:X.A.units+100<cLine):PSet X (fun o i v H Q=>rSetL o i v H Q∨rSetD o i v H Q):=by
 intro pins s σ H o i v ov iv u Q I ro ri rv h
 rcases h with h | h
 · exact set_list pins s σ H o i v ov iv u Q I ro ri rv h
 · exact set_dict (by omega) pins s σ H o i v ov iv u Q I ro ri rv h
theorem ZhT {o i:Expr}{sp:Pos}(h:Zi i=true):∀v,assign (.Subscript o i sp) X.env v=(do
   let ov ← holding [v] (eval o X.env)
   let iv ← holding [v,ov] (eval i X.env)
   standAt sp
   holding [v,ov,iv] (setItem ov iv v)
   release [v,ov,iv] []):=by
 intro v
 cases i <;> first | rfl | cases h
theorem ZmJ {eo ei e:Expr}{sp pos:Pos}{mo mi m:M}(F:XF Γ cl k X)(hp:Zi ei=true)(ho:DE Γ cl X eo mo)(hi:DE Γ cl X ei mi)(h:DE Γ cl X e m):DS Γ cl X (.Assign [.Subscript eo ei sp] e pos) (.sub mo mi m):=by
 intro σ H ρ S P E rs re hq
 unfold wC at hq
 refine YH (ps_asg c_e (pg_sub c_e c_e (ZlC F.hu) (ZhT hp)) (by show swapsWith e (some (.Subscript eo ei sp)) pos.line X.env=_;cases e <;> rfl) (by cases e <;> rfl) (by rfl)) ?_
 refine Ze (h σ H ρ S P _ rs re hq) fun v H1 ⟨d,S1,le1,rs1,r1,q,_⟩=>?_
 refine Ze (ho σ H1 ρ S1 P _ rs1 (re.le rs le1) q) fun w H2 ⟨d2,S2,le2,rs2,r2,q2,_⟩=>?_
 refine Ze (hi σ H2 ρ S2 P _ rs2 ((re.le rs le1).le rs1 le2) q2) fun z H3 ⟨d3,S3,le3,rs3,r3,q3,_⟩=>?_
 have q3:(match subD S3 d2 d3 d with | some S4=>E.nx ρ S4 | none=>False):=q3
 cases es:subD S3 d2 d3 d with
 | none=>rw[es] at q3;exact q3.elim
 | some S4=>
   rw[es] at q3
   exact ZnX rs3 (Rep.le rs2 le3 _ r2) r3 (Rep.le rs1 (le2.trans le3) _ r1) es fun H' le4 rs4=>⟨ρ,S4,((le1.trans le2).trans le3).trans le4,rs4,(((re.le rs le1).le rs1 le2).le rs2 le3).le rs3 le4,q3⟩
theorem ZdC {K:PySem.W.Frag}{H:Hp}{S:Za}{P:Addr→Prop}{f:Str}{v:V}{d:D}(r:Rep K H S P v d):∀ {fs:List (Str×D)} {vs:List V},Zb K H S P vs (fs.map (·.2))→
  ∃us,us.length=(Ue f d fs).length∧putF f v ((fs.map (·.1)).zip vs)=((Ue f d fs).map (·.1)).zip us∧Zb K H S P us ((Ue f d fs).map (·.2))
 | [],_,.nil=>⟨[v],rfl,rfl,.cons r .nil⟩
 | (g,x) :: t,_,.cons (v:=w) (vs:=ws) h q=>by
   rw[List.map_cons,List.zip_cons_cons]
   unfold Ue putF
   by_cases e:g=f
   · rw[if_pos e,if_pos e]
     exact⟨v :: ws,by have:=q.length;simp at this ⊢;exact this,rfl,.cons r q⟩
   · rw[if_neg e,if_neg e]
     obtain⟨us,l,e2,q2⟩:=ZdC r q
     exact⟨w :: us,by simp[l],by rw[e2];rfl,.cons h q2⟩
theorem ZmI {eo e:Expr}{f:Str}{ap pos:Pos}{mo m:M}(F:XF Γ cl k X)(ho:DE Γ cl X eo mo)(h:DE Γ cl X e m):DS Γ cl X (.Assign [.Attribute eo f ap] e pos) (.sat mo f m):=by
 intro σ H ρ S P E rs re hq
 unfold wC at hq
 refine YH (ps_fld c_e c_e (by cases e <;> rfl)) ?_
 refine Ze (h σ H ρ S P _ rs re hq) fun v H1 ⟨d,S1,le1,rs1,r1,q,_⟩=>?_
 refine Ze (ho σ H1 ρ S1 P _ rs1 (re.le rs le1) q) fun w H2 ⟨d2,S2,le2,rs2,r2,q2,_⟩=>?_
 have q2:(match satD S2 d2 f d with | some (c,S3)=>Γ.fld c f∧E.nx ρ S3 | none=>False):=q2
 cases d2 with
 | obj a=>
   unfold satD at q2
   dsimp only at q2
   cases ea:S2 a with
   | none=>rw[ea] at q2;exact q2.elim
   | some mo=>
     rw[ea] at q2
     cases mo with
     | lst _=>exact q2.elim
     | dic _=>exact q2.elim
     | ins n fs=>
       dsimp only at q2
       by_cases hl:fs.length<900
       · rw[if_pos hl] at q2
         obtain⟨q3,q4⟩:=q2
         obtain⟨C',hc',cls,na⟩:=F.flds _ _ q3
         obtain⟨_,C,dx,vs,hc,hlen,hh,rr⟩:=rs2.own a _ ea
         rw[hc] at hc'
         cases hc'
         cases r2
         obtain⟨us,l2,e2,rr2⟩:=ZdC (f:=f) (Rep.le rs1 le2 _ r1) rr
         have le3:=Le.put (o:=.ins C' dx (putF f v ((fs.map (·.1)).zip vs))) (mo':=.ins n (Ue f d fs)) rs2 ea
         refine⟨a,C',dx,_,rfl,hh,cls,na,by rw[List.length_zip,List.length_map];omega,ρ,_,(le1.trans le2).trans le3,rs2.put ea ⟨C',dx,us,hc,l2,by rw[upd_same,e2],Zb.le rs2 le3 _ rr2⟩,((re.le rs le1).le rs1 le2).le rs2 le3,q4⟩
       · rw[if_neg hl] at q2;exact q2.elim
 | _=>exact q2.elim
theorem ZcZ {K:PySem.W.Frag}{H:Hp}{S:Za}{P:Addr→Prop}{kk:Key}:∀ {kvs:List (Key×D)} {vs:List V},Zb K H S P vs (kvs.map (·.2))→
  ∃us,us.length=(kvs.filter fun kv=>!decide (kv.1=kk)).length∧dropK ((kvs.map (·.1)).zip vs) kk=((kvs.filter fun kv=>!decide (kv.1=kk)).map (·.1)).zip us∧Zb K H S P us ((kvs.filter fun kv=>!decide (kv.1=kk)).map (·.2))
 | [],_,.nil=>⟨[],rfl,rfl,.nil⟩
 | kv :: t,_,.cons (v:=w) (vs:=ws) h q=>by
   obtain⟨us,l,e,q2⟩:=ZcZ (kk:=kk) q
   unfold dropK at e ⊢
   rw[List.map_cons,List.zip_cons_cons,List.filter_cons,List.filter_cons]
   by_cases hk:kv.1=kk
   · rw[if_neg (by simp[hk]),if_neg (by simp[hk])]
     exact⟨us,l,e,q2⟩
   · rw[if_pos (by simp[hk]),if_pos (by simp[hk]),e]
     exact⟨w :: us,by simp[l],rfl,.cons h q2⟩
theorem Zd6 {K:PySem.W.Frag}{H:Hp}{S:Za}{P:Addr→Prop}{kk:Key}:∀ {kvs:List (Key×D)} {vs:List V},vs.length=kvs.length→valV ((kvs.map (·.1)).zip vs) kk=none→kvs.filter (fun kv=>!decide (kv.1=kk))=kvs
 | [],_,_,_=>rfl
 | kv :: t,[],hl,_=>by simp at hl
 | kv :: t,v :: ws,hl,h=>by
   unfold valV at h
   rw[List.map_cons,List.zip_cons_cons,List.find?_cons] at h
   by_cases hk:kv.1=kk
   · simp[hk] at h
   · rw[List.filter_cons,if_pos (by simp[hk])]
     congr 1
     refine Zd6 (K:=K) (H:=H) (S:=S) (P:=P) (vs:=ws) (by simpa using hl) ?_
     have hd:decide (kv.1=kk)=false:=by simp[hk]
     simp only[hd] at h
     exact h
theorem ZlI {S:Za}{a:Addr}{o:MO}(h:S a=some o):sput S a o=S:=by
 funext b;unfold sput;split
 · next e=>subst e;exact h.symm
 · rfl
theorem ZkW {eo x y:Expr}{ap cp pos:Pos}{mo mk md:M}(F:XF Γ cl k X)(hb:Yo eo=true)(hl:(ap.endLine == cp.line)=true)(hp:Zi x=true)(hp2:Zi y=true)(ho:DE Γ cl X eo mo)(hk:DE Γ cl X x mk)(hd:DE Γ cl X y md)(hc:chks c (.cons mk (.cons md .nil)) [x,y]=true) :
  DS Γ cl X (.Expr (.Call (.Attribute eo "pop" ap) [x,y] [] cp) pos) (.dpop mo mk md):=by
 intro σ H ρ S P E rs re hq
 unfold wC at hq
 refine YH (ps_expr (pe_dpop2 c_e c_e c_e ⟨YC hb,Vq hc (by simp),hl,Zd1 hp hp2⟩) rfl) ?_
 refine Ze (ho σ H ρ S P _ rs re hq) fun v H1 ⟨d,S1,le1,rs1,r1,⟨hs,q⟩,_⟩=>?_
 obtain⟨kvs0,h0⟩:=Option.isSome_iff_exists.mp (show(dicD S1 d).isSome=true from hs)
 obtain⟨p,vs0,rfl,_,hh0,_⟩:=XH rs1 r1 h0
 refine⟨p,rfl,.inl ⟨_,hh0⟩,?_⟩
 refine Ze (hk σ H1 ρ S1 P _ rs1 (re.le rs le1) q) fun w H2 ⟨y2,S2,le2,rs2,r2,q2,_⟩=>?_
 refine Ze (hd σ H2 ρ S2 P _ rs2 ((re.le rs le1).le rs1 le2) q2) fun w3 H3 ⟨y3,S3,le3,rs3,r3,q3,_⟩=>?_
 have q3:(match WN S3 d y2 with | some S4=>E.nx ρ S4 | none=>False):=q3
 have R:=(((re.le rs le1).le rs1 le2).le rs2 le3)
 have L:=(le1.trans le2).trans le3
 cases d with
 | obj a=>
   cases r1
   unfold WN at q3
   dsimp only at q3
   cases ea:S3 p with
   | none=>rw[ea] at q3;exact q3.elim
   | some mo=>
     rw[ea] at q3
     cases mo with
     | lst _=>exact q3.elim
     | ins _ _=>exact q3.elim
     | dic kvs=>
       dsimp only at q3
       cases ek:keyD y2 with
       | none=>rw[ek] at q3;exact q3.elim
       | some kk=>
         rw[ek] at q3
         have e2:=Wo r2 ek
         subst e2
         obtain⟨np,vs,hlen,hh,nd,rr⟩:=rs3.own p _ ea
         obtain⟨us,l,e,q4⟩:=ZcZ (kk:=kk) rr
         refine⟨_,kk,hh,rfl,fun v _=>?_,fun hn=>?_⟩
         · have le4:=Le.put (o:=.dK (dropK ((kvs.map (·.1)).zip vs) kk)) (mo':=.dic (kvs.filter fun kv=>!decide (kv.1=kk))) rs3 ea
           exact⟨ρ,_,L.trans le4,rs3.put ea ⟨us,l,by rw[upd_same,e],(List.filter_sublist.map _).nodup nd,Zb.le rs3 le4 _ q4⟩,R.le rs3 le4,q3⟩
         · have e5:=Zd6 (K:=X.K) (H:=H3) (S:=S3) (P:=P) hlen hn
           have q3:E.nx ρ (sput S3 p (.dic (kvs.filter fun kv=>!decide (kv.1=kk)))):=q3
           rw[e5,ZlI ea] at q3
           exact⟨ρ,S3,L,rs3,R,q3⟩
 | _=>exact q3.elim
end
end Sw
namespace Sw
open PySem PySem.Spec PyProof.Rows L2
theorem ZlK {X:Cx}{c:Cd}(C:XC c X){x y:Str}{px py tp:Pos}{kk:Nat}{e:Expr}(h:decide (c.sc.names.lookup x≠some .local)=true∨decide (c.sc.names.lookup y≠some .local)=true):swappedStores [.Tuple [.Name x px,.Name y py] kk tp] e X.env=pure none:=by
 have kk':∀z,X.env.kindOf z=c.sc.names.lookup z:=fun z=>by rw[← C.sc];rfl
 have hl:(nmsE X.env px.line [Expr.Name x px,Expr.Name y py]).length≠2:=by
  have bf:∀z,c.sc.names.lookup z≠some .local→(X.env.kindOf z == some .local)=false:=fun z hz=>by
   rw[kk',Bool.eq_false_iff];intro w;exact hz (eq_of_beq w)
  unfold nmsE
  rcases h with h | h
  · have:=bf x (of_decide_eq_true h)
    rw[List.filterMap_cons]
    simp only[this,Bool.false_and,Bool.false_eq_true,if_false]
    intro z
    have:=List.length_filterMap_le (fun t:Expr=>match t with
     | .Name id pos=>if(X.env.kindOf id == some .local && pos.line == px.line)=true then some id else none
     | _=>none) [Expr.Name y py]
    rw[z] at this
    simp at this
  · have:=bf y (of_decide_eq_true h)
    rw[List.filterMap_cons,List.filterMap_cons]
    simp only[this,Bool.false_and,Bool.false_eq_true,if_false]
    split <;> simp
 cases e with
 | Tuple vs k2 ep=>
   have key:swappedStores [.Tuple [.Name x px,.Name y py] kk tp] (.Tuple vs k2 ep) X.env=(if(false || vs.length != 2 || X.env.blockKind != .function)=true then pure none else if(vs.any ZcH)=true then pure none else
    if((nmsE X.env px.line [Expr.Name x px,Expr.Name y py]).length != 2 || (nmsE X.env px.line [Expr.Name x px,Expr.Name y py]).eraseDups.length != (nmsE X.env px.line [Expr.Name x px,Expr.Name y py]).length)=true then pure none else
    if vs.all (foldedForSure 8)=true then pure none else
    if vs.all (constantsAlone 8)=true then(do unsupported "assign.tuple-of-constant-expressions:order-of-the-stores";pure (some (nmsE X.env px.line [Expr.Name x px,Expr.Name y py]))) else pure (some (nmsE X.env px.line [Expr.Name x px,Expr.Name y py]))):=rfl
   have hb:((nmsE X.env px.line [Expr.Name x px,Expr.Name y py]).length != 2)=true:=by
    rw[bne_iff_ne];exact hl
   rw[key,hb,Bool.true_or,if_pos rfl]
   split
   · rfl
   · split <;> rfl
 | _=>rfl
end Sw
namespace Sw
open PySem PySem.Spec PyProof.Rows L2
section
variable {Γ:Gam}{cl:ClsT}{k:Nat}{X:Cx}{c:Cd}
def rMu (X:Cx)(cl:ClsT)(m:Mu):V→List V→Hp→VK→Prop:=fun x xs H Q=>∃S P a ds dxs y ds',RS X.K cl H S P∧x=.ref a∧S a=some (.lst ds)∧Zb X.K H S P xs dxs∧muD m S ds dxs=some (y,ds')∧∀v H',Le H S P H' (sput S a (.lst ds'))→RS X.K cl H' (sput S a (.lst ds')) P→Q v H'
theorem Vy {S:Za}{H:Hp}{P:Addr→Prop}{a:Addr}{ds ds':List D}{xs':List V}{Q:VK}{v:V}(rs:RS X.K cl H S P)(e:S a=some (.lst ds))(q:Zb X.K H S P xs' ds')(hQ:∀v H',Le H S P H' (sput S a (.lst ds'))→RS X.K cl H' (sput S a (.lst ds')) P→Q v H'):Q v (upd H a (.lst xs')):=
 hQ _ _ (Le.put rs e) (rs.put e ⟨xs',upd_same,Zb.le rs (Le.put rs e) _ q⟩)
theorem Zb.dropLast {K:PySem.W.Frag}{H:Hp}{S:Za}{P:Addr→Prop}{vs:List V}{ds:List D}(h:Zb K H S P vs ds):Zb K H S P vs.dropLast ds.dropLast:=by
 rw[List.dropLast_eq_take,List.dropLast_eq_take,h.length]
 exact Zb.take _ h
theorem ZhE:MtR X "list.append" (rMu X cl .append):=by
 intro pins s σ H x xs v us Q I rx rv ⟨S,P,a,ds,dxs,y,ds',rs,e1,e2,rr,h,hQ⟩
 obtain⟨np,zs,hz,q⟩:=rs.own a _ e2
 change appM ds dxs=_ at h
 unfold appM at h
 split at h <;> try cases h
 split at h <;> try cases h
 next hl=>
 obtain⟨w,rfl,ry⟩:=rep1 rr
 exact mt_append pins s σ H x _ v us Q I rx rv ⟨a,zs,w,e1,rfl,hz,by rw[q.length];exact hl,Vy rs e2 (Zb.app q (.cons ry .nil)) hQ⟩
theorem ZhF:MtR X "list.extend" (rMu X cl .extend):=by
 intro pins s σ H x xs v us Q I rx rv ⟨S,P,a,ds,dxs,y,ds',rs,e1,e2,rr,h,hQ⟩
 obtain⟨np,zs,hz,q⟩:=rs.own a _ e2
 change extM S ds dxs=_ at h
 unfold extM at h
 split at h <;> try cases h
 next d=>
 cases e:peel S d with
 | none=>rw[e] at h;cases h
 | some ys=>
   rw[e] at h
   dsimp only at h
   split at h <;> try cases h
   next hl=>
   obtain⟨w,rfl,ry⟩:=rep1 rr
   obtain⟨b,ws,rfl,hb,q2⟩:=ZM rs ry e
   exact mt_extend pins s σ H x _ v us Q I rx rv ⟨a,b,zs,ws,e1,rfl,hz,hb,by rw[q.length,q2.length];exact hl,Vy rs e2 (Zb.app q q2) hQ⟩
theorem rep0 {K:PySem.W.Frag}{H:Hp}{S:Za}{P:Addr→Prop}{xs:List V}(r:Zb K H S P xs []):xs=[]:=by cases r;rfl
theorem Zf7:MtR X "list.reverse" (rMu X cl .reverse):=by
 intro pins s σ H x xs v us Q I rx rv ⟨S,P,a,ds,dxs,y,ds',rs,e1,e2,rr,h,hQ⟩
 obtain⟨np,zs,hz,q⟩:=rs.own a _ e2
 change revM ds dxs=_ at h
 unfold revM at h
 split at h <;> try cases h
 have:=rep0 rr
 subst this
 exact mt_reverse pins s σ H x _ v us Q I rx rv ⟨a,zs,e1,rfl,hz,Vy rs e2 (Zb.reverse q) hQ⟩
theorem Zjd:MtR X "list.clear" (rMu X cl .clear):=by
 intro pins s σ H x xs v us Q I rx rv ⟨S,P,a,ds,dxs,y,ds',rs,e1,e2,rr,h,hQ⟩
 obtain⟨np,zs,hz,q⟩:=rs.own a _ e2
 change clrM dxs=_ at h
 unfold clrM at h
 split at h <;> try cases h
 have:=rep0 rr
 subst this
 exact mt_clear pins s σ H x _ v us Q I rx rv ⟨a,zs,e1,rfl,hz,Vy rs e2 .nil hQ⟩
theorem Znr:MtR X "list.pop" (rMu X cl .pop):=by
 intro pins s σ H x xs v us Q I rx rv ⟨S,P,a,ds,dxs,y,ds',rs,e1,e2,rr,h,hQ⟩
 obtain⟨np,zs,hz,q⟩:=rs.own a _ e2
 change popM ds dxs=_ at h
 unfold popM at h
 split at h <;> try cases h
 have:=rep0 rr
 subst this
 split at h <;> try cases h
 next hy=>
 obtain⟨w,hw,r⟩:=q.get hy
 exact mt_pop pins s σ H x _ v us Q I rx rv ⟨a,zs,w,e1,rfl,hz,by rw[q.length];exact hw,Vy rs e2 q.dropLast hQ⟩
theorem Zje:MtR X "list.pop" (rMu X cl .popAt):=by
 intro pins s σ H x xs v us Q I rx rv ⟨S,P,a,ds,dxs,y,ds',rs,e1,e2,rr,h,hQ⟩
 obtain⟨np,zs,hz,q⟩:=rs.own a _ e2
 change UU ds dxs=_ at h
 unfold UU at h
 split at h <;> try cases h
 next i=>
 split at h <;> try cases h
 next hi=>
 split at h <;> try cases h
 next hy=>
 obtain⟨w,rfl,ri⟩:=rep1 rr
 cases ri
 obtain⟨w,hw,r⟩:=q.get hy
 have hl:i.toNat<zs.length:=(List.getElem?_eq_some_iff.mp hw).1
 exact mt_popAt pins s σ H x _ v us Q I rx rv ⟨a,zs,i,i.toNat,w,e1,rfl,hz,by omega,by omega,seqIndex_of hi.1 (by omega),hw,Vy rs e2 (Zb.erase _ q) hQ⟩
def muId:Mu→String
 | .append=> "list.append" | .extend=> "list.extend" | .reverse=> "list.reverse" | .clear=> "list.clear" | .pop=> "list.pop" | .popAt=> "list.pop"
theorem ZhD (m:Mu):MtR X (muId m) (rMu X cl m):=by
 cases m with
 | append=>exact ZhE
 | extend=>exact ZhF
 | reverse=>exact Zf7
 | clear=>exact Zjd
 | pop=>exact Znr
 | popAt=>exact Zje
theorem Zfj (m:Mu):Slot "list" (Vx m) (muId m):=by
 cases m with
 | append=>exact F.slot_list_append
 | extend=>exact F.slot_list_extend
 | reverse=>exact F.slot_list_reverse
 | clear=>exact F.slot_list_clear
 | pop=>exact F.slot_list_pop
 | popAt=>exact F.slot_list_pop
theorem Zfk (m:Mu):typeOf (.builtin (muId m))=pure (.type "method_descriptor"):=by
 cases m with
 | append=>exact F.type_list_append
 | extend=>exact F.type_list_extend
 | reverse=>exact F.type_list_reverse
 | clear=>exact F.type_list_clear
 | pop=>exact F.type_list_pop
 | popAt=>exact F.type_list_pop
theorem ZmF {m:Mu}{eo:Expr}{ap cp pos:Pos}{es:List Expr}{o:M}{as:Ms}(hb:Yo eo=true)(hl:(ap.endLine == cp.line)=true)(ho:DE Γ cl X eo o)(hk:chks c as es=true)(hn:es.length≤20)(ha:DAs Γ cl X es as) :
  DS Γ cl X (.Expr (.Call (.Attribute eo (Vx m) ap) es [] cp) pos) (.mut m o as):=by
 intro σ H ρ S P E rs re hq
 unfold wC at hq
 cases es with
 | nil=>
   cases as with
   | cons a r=>unfold chks at hk;cases hk
   | nil=>
     refine YH (ps_expr (pe_bm0 F.plainAttrs_list (Zfj m) (Zfk m) (ZhD (cl:=cl) m) c_e (YC hb) hl) rfl) ?_
     refine Ze (ho σ H ρ S P _ rs re hq) fun v H1 ⟨d,S1,le1,rs1,r1,⟨a,ds1,ed,e1,q⟩,_⟩=>?_
     subst ed
     cases r1
     unfold wEs at q
     obtain⟨ds,y,ds',e,e2,z2⟩:=q
     refine⟨?_,S1,P,a,ds,[],y,ds',rs1,rfl,e,.nil,e2,fun w H3 le3 rs3=>⟨ρ,_,le1.trans le3,rs3,(re.le rs le1).le rs1 le3,z2⟩⟩
     obtain⟨np,xs,e,_⟩:=rs1.own a _ e1
     exact .inl ⟨rfl,xs,SqL.of e⟩
 | cons e es=>
   have core:cE X eo σ H fun x H1=>tyV X.K "list" x H1∧cA X (e :: es) σ H1 fun xs H2=>rMu X cl m x xs H2 fun _ H'=>(Yz X.K cl E H S P).nx σ H':=by
    refine Ze (ho σ H ρ S P _ rs re hq) fun v H1 ⟨d,S1,le1,rs1,r1,⟨a,ds1,ed,e1,q⟩,_⟩=>?_
    subst ed
    cases r1
    refine⟨?_,?_⟩
    · obtain⟨np,xs,e,_⟩:=rs1.own a _ e1
      exact .inl ⟨rfl,xs,SqL.of e⟩
    · refine Yc (ha σ H1 ρ S1 P _ rs1 (re.le rs le1) q) fun vs H2 ⟨xs,S2,le2,rs2,rr,ds,y,ds',e,e2,z2⟩=>?_
      exact⟨S2,P,a,ds,xs,y,ds',rs2,rfl,e,rr,e2,fun w H3 le3 rs3=>⟨ρ,_,(le1.trans le2).trans le3,rs3,((re.le rs le1).le rs1 le2).le rs2 le3,z2⟩⟩
   have hpx:Zi e=true∧∃r,chks c r es=true:=by
    cases as with
    | nil=>unfold chks at hk;cases hk
    | cons a r=>unfold chks at hk;simp only[Bool.and_eq_true] at hk;exact⟨hk.1.1,r,hk.2⟩
   obtain⟨hp,r,hr⟩:=hpx
   have hany:=ZV c as (e :: es) X.env cp hk
   refine YH (ps_expr (pe_bm F.plainAttrs_list (Zfj m) (Zfk m) (ZhD (cl:=cl) m) c_e c_a (YC hb) ?_ hl (Zg hp) (ZV c r es _ _ hr)) rfl) core
   rw[Vl _ hany]
   show(true && true && decide _)=true
   rw[Bool.true_and,Bool.true_and]
   apply decide_eq_true
   simp only[List.length_cons,List.length_nil,List.isEmpty_nil,if_true] at hn ⊢
   omega
theorem ZjN {g:Za→Prop}{turn:D→DEnv→Za→(DEnv→Za→Prop)→Prop}{items:List D}{i:Nat}{ρ:DEnv}{S:Za}{Q:DEnv→Za→Prop}(h:wFor g turn (items.drop i) ρ S Q) :
  g S∧(∀d,items[i]?=some d→turn d ρ S fun ρ' S'=>wFor g turn (items.drop (i+1)) ρ' S' Q)∧(items[i]?=none→Q ρ S):=by
 by_cases hi:i<items.length
 · have e:items.drop i=items[i] :: items.drop (i+1):=List.drop_eq_getElem_cons hi
   rw[e] at h
   refine⟨h.1,fun d hd=>?_,fun hd=>?_⟩
   · have ed:items[i]=d:=by rw[List.getElem?_eq_getElem hi] at hd;exact Option.some.inj hd
     rw[ed] at h
     exact h.2
   · rw[List.getElem?_eq_getElem hi] at hd;cases hd
 · rw[List.drop_eq_nil_of_le (by omega)] at h
   refine⟨h.1,fun d hd=>?_,fun hd=>h.2⟩
   rw[List.getElem?_eq_none (by omega)] at hd;cases hd
theorem Vp {s:Src}{as:Ms}{tg:Tg}{body:Cs}{t iter:Expr}{p:List Stmt}{pos:Pos}{wi:TI}(F:XF Γ cl k X)(hpl:Zi iter=true)(hi:PI X t iter wi)(hsrc:SrcR Γ cl X s as wi)(hg:PG X t (gT X.K tg))(hb:DSs Γ cl X p body) :
  DS Γ cl X (.For t iter p [] pos) (.for s as tg body):=by
 intro σ H ρ S P E rs re hq
 unfold wC at hq
 refine YH (ps_for (by rw[F.xe];exact PassesOwn.never) F.calm hi hg c_ss (W4 hpl)) ?_
 refine hsrc σ H ρ S P _ _ rs re hq fun J vs ds items H1 S1 le1 rs1 rr e1 q ok1=>?_
 refine⟨fun i m σ' H'=>m=items.length - i∧i≤items.length∧∃ρ' S',Le H1 S1 P H' S'∧RS X.K cl H' S' P∧REnv X.K H' S' P σ' ρ'∧
  wFor (fun S=>srcD s S ds=some items) (fun d ρ S N=>∃ρ',setT tg d ρ=some ρ'∧wCs Γ body { E with nx:=N } ρ' S) (items.drop i) ρ' S' E.nx,⟨items.length,by simp,Nat.zero_le _,ρ,S1,Le.refl rs1,rs1,re.le rs le1,q⟩,?_⟩
 rintro i m σ' H' ⟨rfl,hil,ρ',S',le',rs',re',wf⟩
 obtain⟨esrc,wgo,wstop⟩:=ZjN wf
 have rr':Zb X.K H' S' P vs ds:=Zb.le rs1 le' _ rr
 have fz':Fz H1 H':=Le.fz rs1 le'
 cases hit:items[i]? with
 | none=>
   left
   obtain⟨_,stop⟩:=ok1 H' S' P items fz' rs' rr' esrc i
   exact⟨stop hit,ρ',S',le1.trans le',rs',re',wstop hit⟩
 | some d=>
   right
   obtain⟨go,_⟩:=ok1 H' S' P items fz' rs' rr' esrc i
   obtain⟨g1,g2⟩:=go d hit
   obtain⟨ρ2,eset,wb⟩:=wgo d hit
   have hlt:i<items.length:=(List.getElem?_eq_some_iff.mp hit).1
   refine⟨g1,fun σ2 H2=>∃ρ2 S2,Le H1 S1 P H2 S2∧RS X.K cl H2 S2 P∧REnv X.K H2 S2 P σ2 ρ2∧wFor (fun S=>srcD s S ds=some items) (fun d ρ S N=>∃ρ',setT tg d ρ=some ρ'∧wCs Γ body { E with nx:=N } ρ' S) (items.drop (i+1)) ρ2 S2 E.nx,
    fun σ2 H2 n=>⟨items.length - (i+1),by omega,rfl,hlt,n⟩,fun x H3 hy=>?_⟩
   obtain⟨le3,rs3,rx⟩:=g2 x H3 hy
   refine QA tg rx (re'.le rs' le3) eset fun σ2 re2 _=>?_
   have B:=hb σ2 H3 ρ2 S' P _ rs3 re2 wb
   refine VT B (fun σ4 H4 ⟨ρ4,S4,le4,rs4,re4,q4⟩=>⟨ρ4,S4,(le'.trans le3).trans le4,rs4,re4,q4⟩) (fun v H4 l=>YU (Ye ((le1.trans le').trans le3) l) rfl) (fun _ _ z=>z.elim) fun _ _ z=>z.elim
theorem ZiS {m:M}{body:Cs}{e:Expr}{p:List Stmt}{pos:Pos}(F:XF Γ cl k X)(h:DT Γ cl X e m)(hb:DSs Γ cl X p body):DS Γ cl X (.While e p [] pos) (.while m body):=by
 intro σ H ρ S P E rs re hq
 unfold wC at hq
 obtain⟨W,⟨m0,w0⟩,hW⟩:=hq
 refine YH (ps_while (by rw[F.xe];exact PassesOwn.never) c_t c_ss) ?_
 refine⟨fun n σ' H'=>∃ρ' S',Le H S P H' S'∧RS X.K cl H' S' P∧REnv X.K H' S' P σ' ρ'∧W n ρ' S',⟨m0,ρ,S,Le.refl rs,rs,re,w0⟩,?_⟩
 rintro n σ' H' ⟨ρ',S',le',rs',re',w'⟩
 refine Y9 (h σ' H' ρ' S' P _ rs' re' (hW n ρ' S' w')) fun b H1 ⟨S1,le1,rs1,q⟩=>?_
 cases b with
 | false=>
   rw[if_neg Bool.false_ne_true] at q
   rw[if_neg Bool.false_ne_true]
   exact⟨ρ',S1,le'.trans le1,rs1,re'.le rs' le1,q⟩
 | true=>
   rw[if_pos rfl] at q
   rw[if_pos rfl]
   refine⟨fun σ2 H2=>∃m',m'<n∧∃ρ2 S2,Le H S P H2 S2∧RS X.K cl H2 S2 P∧REnv X.K H2 S2 P σ2 ρ2∧W m' ρ2 S2,fun σ2 H2 ⟨m',hm,z⟩=>⟨m',hm,z⟩,?_⟩
   have B:=hb σ' H1 ρ' S1 P _ rs1 (re'.le rs' le1) q
   refine VT B (fun σ4 H4 ⟨ρ4,S4,le4,rs4,re4,m',hm,q4⟩=>⟨m',hm,ρ4,S4,(le'.trans le1).trans le4,rs4,re4,q4⟩) (fun v H4 l=>YU (Ye (le'.trans le1) l) rfl) (fun _ _ z=>z.elim) fun _ _ z=>z.elim
end
end Sw
namespace Sw
open PySem PySem.Spec PyProof.Rows L2
section
variable {Γ:Gam}{cl:ClsT}{k:Nat}{X:Cx}{c:Cd}
theorem Ze1 {x:Str}{py pos:Pos}{e:Expr}{i:Nat}{s:Src}{as cs:Ms}{own:List Nat}{tg:Tg}{el:M}(F:XF Γ cl k X)(C:XC c X)(hi:c.N[i]?=some x)(hs:swOk c x py e=true)(h:chk c (.comp s as own tg cs el) e=true) :
  DN Γ cl X x py e pos i (.comp s as own tg cs el):=by
 obtain⟨elt,t,iter,ifs,scope,cpos,rfl,hl,hp,hsr,hb,hsl,ht,hc,he⟩:=Zaz h
 have ok:BlkOk X.N X.env.scope scope (ownC c.N own):=by rw[C.n,C.sc];exact blkOk_by hb
 have FB:∀s0 H0 C0 cl' fp,XF Γ cl k (Yh X scope s0 H0 C0 cl' fp):=fun _ _ _ _ _=>Ziu F
 have CB:∀s0 H0 C0 cl' fp,XC ⟨c.N,relS scope c.sc,fun x=>scope.names.lookup x == some .cell⟩ (Yh X scope s0 H0 C0 cl' fp):=fun _ _ _ _ _=>Zit C
 have E:∀s0 H0 C0 cl' fp,DE Γ cl (Yh X scope s0 H0 C0 cl' fp) elt el:=fun s0 H0 C0 cl' fp=>(Zh el _ _ elt (FB s0 H0 C0 cl' fp) (CB s0 H0 C0 cl' fp) he).ex
 have G:∀s0 H0 C0 cl' fp,PG (Yh X scope s0 H0 C0 cl' fp) t (gT X.K tg):=fun s0 H0 C0 cl' fp=>Qw (FB s0 H0 C0 cl' fp) (CB s0 H0 C0 cl' fp) tg t ht
 have hd:IfsD Γ cl X scope ifs cs:=Zg9 cs _ scope ifs FB CB hl hc
 have hs:((py.line == cpos.line) && decide (c.sc.names.lookup x=some .local) && decide (c.sc.kind=.function) && !(scope.names.any fun(n,k)=>n == x && (k == .local || k == .cell)))=true:=hs
 simp only[Bool.and_eq_true,decide_eq_true_eq,Bool.not_eq_true'] at hs
 obtain⟨⟨⟨h1,h2⟩,h3⟩,h4⟩:=hs
 have go:∀(wi:TI),PI X t iter wi→SrcR Γ cl X s as wi→DN Γ cl X x py (.ListComp elt [⟨t,iter,ifs,0⟩] scope cpos) pos i (.comp s as own tg cs el):=fun wi hpi hsrc σ H ρ S P Q rs re hw D hD=>
  ZiR F (by rw[C.n];exact hi) (by rw[C.sc];exact h2) (sw_true (by rw[C.sc];exact h3) (by rw[C.sc];exact h2) h1 h4) hp hpi hsrc ok (Zfn c.N own) hsl G hl hd E σ H ρ S P Q rs re hw D hD
 rcases hsr with ⟨rfl,a,rfl,h1⟩ |⟨rfl,p,q,x,rfl,h1,h2⟩ |⟨rfl,p,q,x,y,rfl,h1,h2⟩ |⟨rfl,p,q,x,tt,tk,tp,rfl,rfl,h1,h2⟩ |⟨rfl,p,q,x,y,tt,tk,tp,rfl,rfl,h1,h2⟩ |⟨rfl,a,rfl,h1⟩
 · exact go _ (Zgc c_e) (ZdZ (Zh a c X _ F C h1).ex)
 · have L:=ZU as c X _ F C h2
   exact go _ (pi_range1 (ZE C h1) (F.blt _ (by decide +kernel)) c_a (Zg (dl1 L))) (XX (ZR _ _ L))
 · have L:=ZU as c X _ F C h2
   exact go _ (pi_range2 (ZE C h1) (F.blt _ (by decide +kernel)) c_a (by rw[Zg (dl2 L).1,Zg (dl2 L).2];rfl) (Zg (dl2 L).2)) (Uk (ZR _ _ L))
 · have L:=ZU as c X _ F C h2
   exact go _ (Zgb (ZE C h1) (F.blt _ (by decide +kernel)) c_a (Zg (dl1 L))) (Zam (ZR _ _ L))
 · have L:=ZU as c X _ F C h2
   exact go _ (Zge (ZE C h1) (F.blt _ (by decide +kernel)) c_a (Zg (dl2 L).1) (by rw[Zg (dl2 L).2];rfl)) (Zbw (ZR _ _ L))
 · exact go _ (Zgd c_e) (Zan (Zh a c X _ F C h1).ex)
theorem ZoS {x:Str}{py pos:Pos}{e:Expr}{i:Nat}(F:XF Γ cl k X)(C:XC c X)(hi:c.N[i]?=some x)(hl:locC c x=true):∀(m:M),chk c m e=true→(swNo c x py e || (swOk c x py e && Ze8 (ZjT m)))=true→DN Γ cl X x py e pos i m:=by
 intro m h hs
 rw[Bool.or_eq_true] at hs
 rcases hs with hs | hs
 · exact ZmA F C hi hl (ZpQ C hs) (Zh m c X e F C h).ex
 · rw[Bool.and_eq_true] at hs
   obtain⟨h1,h2⟩:=hs
   cases m with
   | comp s as own tg cs el=>exact Ze1 F C hi h1 h
   | own a=>
     unfold chk at h
     simp only[Bool.and_eq_true] at h
     cases a with
     | comp s as own tg cs el=>exact ZmB h.1.1 (Ze1 F C hi h1 h.2)
     | _=>cases h2
   | _=>cases h2
theorem Zg4 {s:Src}{as:Ms}{tg:Tg}{body:Cs}{st:Stmt}(h:chkC c (.for s as tg body) st=true):∃t iter p pos,st=.For t iter p [] pos∧Zi iter=true∧
  ((s=.it∧∃a,as=.cons a .nil∧chk c a iter=true)∨
   (s=.rng1∧∃p q x,iter=.Call (.Name "range" p) [x] [] q∧gloC c "range" = true∧chks c as [x]=true)∨
   (s=.rng2∧∃p q x y,iter=.Call (.Name "range" p) [x,y] [] q∧gloC c "range" = true∧chks c as [x,y]=true)∨
   (s=.enum∧∃p q x tt tk tp,t=.Tuple tt tk tp∧iter=.Call (.Name "enumerate" p) [x] [] q∧gloC c "enumerate" = true∧chks c as [x]=true)∨
   (s=.zip∧∃p q x y tt tk tp,t=.Tuple tt tk tp∧iter=.Call (.Name "zip" p) [x,y] [] q∧gloC c "zip" = true∧chks c as [x,y]=true)∨
   (s=.keys∧∃a,as=.cons a .nil∧chk c a iter=true))∧
  chkT c tg t=true∧Z5 c body p=true:=by
 unfold chkC at h
 split at h
 · next t iter p pos=>
   simp only[Bool.and_eq_true] at h
   obtain⟨⟨⟨hp,hs⟩,ht⟩,hb⟩:=h
   refine⟨t,iter,p,pos,rfl,hp,?_,ht,hb⟩
   cases s with
   | it=>
     dsimp only at hs
     split at hs
     · exact .inl ⟨rfl,_,rfl,hs⟩
     · cases hs
   | rng1=>
     dsimp only at hs
     split at hs
     · simp only[Bool.and_eq_true,decide_eq_true_eq] at hs
       obtain⟨⟨e,h2⟩,h3⟩:=hs
       subst e
       exact .inr (.inl ⟨rfl,_,_,_,rfl,h2,h3⟩)
     · cases hs
   | rng2=>
     dsimp only at hs
     split at hs
     · simp only[Bool.and_eq_true,decide_eq_true_eq] at hs
       obtain⟨⟨e,h2⟩,h3⟩:=hs
       subst e
       exact .inr (.inr (.inl ⟨rfl,_,_,_,_,rfl,h2,h3⟩))
     · cases hs
   | enum=>
     dsimp only at hs
     split at hs
     · simp only[Bool.and_eq_true,decide_eq_true_eq] at hs
       obtain⟨⟨e,h2⟩,h3⟩:=hs
       subst e
       exact .inr (.inr (.inr (.inl ⟨rfl,_,_,_,_,_,_,rfl,rfl,h2,h3⟩)))
     · cases hs
   | zip=>
     dsimp only at hs
     split at hs
     · simp only[Bool.and_eq_true,decide_eq_true_eq] at hs
       obtain⟨⟨e,h2⟩,h3⟩:=hs
       subst e
       exact .inr (.inr (.inr (.inr (.inl ⟨rfl,_,_,_,_,_,_,_,rfl,rfl,h2,h3⟩))))
     · cases hs
   | keys=>
     dsimp only at hs
     split at hs
     · exact .inr (.inr (.inr (.inr (.inr ⟨rfl,_,rfl,hs⟩))))
     · cases hs
 · cases h
theorem notT {b:Bool}(h:(!b)=true):b=false:=by cases b <;> first | rfl | cases h
mutual
theorem ZoU (F:XF Γ cl k X)(C:XC c X):∀(a:Sw.C)(st:Stmt),chkC c a st=true→DS Γ cl X st a
 | .asg tg m,st,h=>by
   unfold chkC at h
   split at h
   · next t e pos=>
     rw[Bool.and_eq_true] at h
     obtain⟨h1,h2⟩:=h
     split at h2
     · next x py=>
       split at h2
       · next i=>
         rw[Bool.and_eq_true,Bool.and_eq_true] at h2
         exact ZkU (ZoS F C (of_decide_eq_true h2.1.1) h2.1.2 m h1 h2.2)
       · cases h2
     · next ts kk tp=>
       rw[Bool.and_eq_true,Bool.and_eq_true] at h2
       obtain⟨⟨h3,h4⟩,h5⟩:=h2
       refine ZkV F C h4 (notT h3) ?_ (Zh m c X e F C h1).ex
       rw[Bool.or_eq_true] at h5
       rcases h5 with h5 | h5
       · exact Znw (notT h5)
       · split at h5
         · next x px y py=>
           rw[Bool.or_eq_true] at h5
           exact ZlK C h5
         · cases h5
     · cases h2
   · cases h
 | .par i j a b,st,h=>by
   unfold chkC at h
   split at h
   · simp only[Bool.and_eq_true,decide_eq_true_eq] at h
     obtain⟨⟨⟨⟨⟨⟨⟨⟨⟨⟨⟨⟨⟨⟨h1,h2⟩,h3⟩,h4⟩,h5⟩,h6⟩,h7⟩,h8⟩,h9⟩,h10⟩,h11⟩,h12⟩,h13⟩,h14⟩,h15⟩:=h
     exact ZmG F C h1 h2 h3 h6 h7 h8 h9 (notT h4) (notT h5) (notT h10) (notT h11) h12 h13 (Zh a c X _ F C h14).ex (Zh b c X _ F C h15).ex
   · cases h
 | .aug i o m,st,h=>by
   unfold chkC at h
   split at h
   · simp only[Bool.and_eq_true,decide_eq_true_eq] at h
     obtain⟨⟨⟨⟨h1,h2⟩,h3⟩,h4⟩,h5⟩:=h
     subst h1
     exact ZmD F C h2 h3 h4 (Zh m c X _ F C h5).ex
   · cases h
 | .sub o i m,st,h=>by
   unfold chkC at h
   split at h
   · simp only[Bool.and_eq_true] at h
     exact ZmJ F h.1.1.1 (Zh o c X _ F C h.1.1.2).ex (Zh i c X _ F C h.1.2).ex (Zh m c X _ F C h.2).ex
   · cases h
 | .sat o f m,st,h=>by
   unfold chkC at h
   split at h
   · simp only[Bool.and_eq_true,decide_eq_true_eq] at h
     obtain⟨⟨h1,h2⟩,h3⟩:=h
     subst h1
     exact ZmI F (Zh o c X _ F C h2).ex (Zh m c X _ F C h3).ex
   · cases h
 | .dpop o kk d,st,h=>by
   unfold chkC at h
   split at h
   · simp only[Bool.and_eq_true,decide_eq_true_eq] at h
     obtain⟨⟨⟨⟨⟨⟨⟨h1,h2⟩,h3⟩,h4⟩,h5⟩,h6⟩,h7⟩,h8⟩:=h
     subst h1
     refine ZkW (c:=c) F h2 h3 h5 h6 (Zh o c X _ F C h4).ex (Zh kk c X _ F C h7).ex (Zh d c X _ F C h8).ex ?_
     unfold chks chks chks
     simp only[h5,h6,h7,h8,Bool.and_self]
   · cases h
 | .exp m,st,h=>by
   unfold chkC at h
   split at h
   · rw[Bool.and_eq_true] at h
     exact ZmE (notT h.1) (Zh m c X _ F C h.2).ex
   · cases h
 | .mut m o as,st,h=>by
   unfold chkC at h
   split at h
   · next eo nm ap es cp pos=>
     simp only[Bool.and_eq_true,decide_eq_true_eq] at h
     obtain⟨⟨⟨⟨⟨h1,h2⟩,h3⟩,h4⟩,h5⟩,h6⟩:=h
     subst h1
     exact ZmF h2 h3 (Zh o c X _ F C h4).ex h5 h6 (ZR _ _ (ZU as c X _ F C h5))
   · cases h
 | .ret m,st,h=>by
   unfold chkC at h
   split at h
   · exact ZmH (Zh m c X _ F C h).ex
   · cases h
 | .retN,st,h=>by
   unfold chkC at h
   split at h
   · exact ZkY
   · cases h
 | .pass,st,h=>by
   unfold chkC at h
   split at h
   · exact ZkX
   · cases h
 | .ifs m a b,st,h=>by
   unfold chkC at h
   split at h
   · simp only[Bool.and_eq_true] at h
     exact ZoT (Zh m c X _ F C h.1.1).te (WC F C a _ h.1.2) (WC F C b _ h.2)
   · cases h
 | .for s as tg body,st,h=>by
   obtain⟨t,iter,p,pos,rfl,hp,hsr,ht,hb⟩:=Zg4 h
   have B:=WC F C body p hb
   have G:=Qw F C tg t ht
   rcases hsr with ⟨rfl,a,rfl,h1⟩ |⟨rfl,p,q,x,rfl,h1,h2⟩ |⟨rfl,p,q,x,y,rfl,h1,h2⟩ |⟨rfl,p,q,x,tt,tk,tp,rfl,rfl,h1,h2⟩ |⟨rfl,p,q,x,y,tt,tk,tp,rfl,rfl,h1,h2⟩ |⟨rfl,a,rfl,h1⟩
   · exact Vp F hp (Zgc c_e) (ZdZ (Zh a c X _ F C h1).ex) G B
   · have L:=ZU as c X _ F C h2
     exact Vp F hp (pi_range1 (ZE C h1) (F.blt _ (by decide +kernel)) c_a (Zg (dl1 L))) (XX (ZR _ _ L)) G B
   · have L:=ZU as c X _ F C h2
     exact Vp F hp (pi_range2 (ZE C h1) (F.blt _ (by decide +kernel)) c_a (by rw[Zg (dl2 L).1,Zg (dl2 L).2];rfl) (Zg (dl2 L).2)) (Uk (ZR _ _ L)) G B
   · have L:=ZU as c X _ F C h2
     exact Vp F hp (Zgb (ZE C h1) (F.blt _ (by decide +kernel)) c_a (Zg (dl1 L))) (Zam (ZR _ _ L)) G B
   · have L:=ZU as c X _ F C h2
     exact Vp F hp (Zge (ZE C h1) (F.blt _ (by decide +kernel)) c_a (Zg (dl2 L).1) (by rw[Zg (dl2 L).2];rfl)) (Zbw (ZR _ _ L)) G B
   · exact Vp F hp (Zgd c_e) (Zan (Zh a c X _ F C h1).ex) G B
 | .while m body,st,h=>by
   unfold chkC at h
   split at h
   · rw[Bool.and_eq_true] at h
     exact ZiS F (Zh m c X _ F C h.1).te (WC F C body _ h.2)
   · cases h
 | .wipe is,st,h=>by
   unfold chkC at h
   cases h
 | .fre i,st,h=>by
   unfold chkC at h
   cases h
 | .unr,st,h=>ZmK
theorem WC (F:XF Γ cl k X)(C:XC c X):∀(as:Cs)(sts:List Stmt),Z5 c as sts=true→DSs Γ cl X sts as
 | .nil,sts,h=>by
   unfold Z5 at h
   split at h
   · exact Zk0
   · cases h
 | .cons a r,sts,h=>by
   unfold Z5 at h
   split at h
   · next hw=>
     cases a with
     | wipe is=>exact ZiU (WC F C r _ h)
     | fre i=>exact ZkZ (WC F C r _ h)
     | _=>cases hw
   · split at h
     · rw[Bool.and_eq_true] at h
       exact ZiT (ZoU F C a _ h.1) (WC F C r _ h.2)
     · cases h
end
end
end Sw
namespace Sw
open PySem PySem.Spec PyProof.Rows L2
structure LkD (P:Program)(w:World)(K:PySem.W.Frag)(mg:Str→Option Value)(base:Heap)(cl:ClsT)(k:Nat)(x:Str)(sp:ZA):Prop where
 mono:∀ds S Q Q',(∀d S',Q d S'→Q' d S')→sp ds S Q→sp ds S Q'
 ex:∃(f:Addr) (fd:FuncData) (ps:List Str),mg x=some (.ref f)∧PySem.W.keepIn K (.ref f)=true∧Binds K fd ps []∧YV P w K mg base k f fd ps (YI K cl sp)
section
variable {P:Program}{w:World}{K:PySem.W.Frag}{mg:Str→Option Value}{base:Heap}{cl:ClsT}
theorem YV.up {j k:Nat}{f:Addr}{fd:FuncData}{ps:List Str}{sp:Sp}(F:YV P w K mg base j f fd ps sp)(h:j≤k):YV P w K mg base k f fd ps sp:=
 ⟨F.len,fun A outer s H args us vs Q E hr=>F.run A outer s H args us vs Q E (hr.mono h)⟩
theorem LkD.up {j k:Nat}{x:Str}{sp:ZA}(h:LkD P w K mg base cl j x sp)(hk:j≤k):LkD P w K mg base cl k x sp:=by
 obtain⟨m,f,fd,ps,h1,h2,h3,h4⟩:=h
 exact⟨m,f,fd,ps,h1,h2,h3,h4.up hk⟩
def clOf (mg:Str→Option Value):ClsT:=fun c=>match mg c with | some (.ref C)=>some C | _=>none
structure LkM (P:Program)(w:World)(K:PySem.W.Frag)(mg:Str→Option Value)(base:Heap)(cl:ClsT)(k:Nat)(c m:Str)(sp:ZA):Prop where
 mono:∀ds S Q Q',(∀d S',Q d S'→Q' d S')→sp ds S Q→sp ds S Q'
 ex:∃(C f:Addr) (fd:FuncData) (ps:List Str),cl c=some C∧Cls K C∧Meth K C m f∧Binds K fd ps []∧YV P w K mg base k f fd ps (YI K cl sp)
theorem LkM.up {j k:Nat}{c m:Str}{sp:ZA}(h:LkM P w K mg base cl j c m sp)(hk:j≤k):LkM P w K mg base cl k c m sp:=by
 obtain⟨mo,C,f,fd,ps,h1,h2,h3,h4,h5⟩:=h
 exact⟨mo,C,f,fd,ps,h1,h2,h3,h4,h5.up hk⟩
structure LkI (P:Program)(w:World)(K:PySem.W.Frag)(mg:Str→Option Value)(base:Heap)(cl:ClsT)(k:Nat)(c:Str)(sp:ZA):Prop where
 mono:∀ds S Q Q',(∀d S',Q d S'→Q' d S')→sp ds S Q→sp ds S Q'
 ex:∃(C f:Addr) (fd:FuncData) (ps:List Str) (j:Nat),j+1≤k∧mg c=some (.ref C)∧cl c=some C∧Mk K C f∧Binds K fd ps []∧YV P w K mg base j f fd ps (YI K cl sp)
theorem LkI.up {j k:Nat}{c:Str}{sp:ZA}(h:LkI P w K mg base cl j c sp)(hk:j≤k):LkI P w K mg base cl k c sp:=by
 obtain⟨mo,C,f,fd,ps,i,h1,h2,h3,h4,h5,h6⟩:=h
 exact⟨mo,C,f,fd,ps,i,by omega,h2,h3,h4,h5,h6⟩
def LkF (K:PySem.W.Frag)(cl:ClsT)(c f:Str):Prop:=∃C,cl c=some C∧Cls K C∧NoAttr K C f
def ctx (P:Program)(w:World)(K:PySem.W.Frag)(mg:Str→Option Value)(base:Heap)(cl:ClsT)(k:Nat):Gam:=
 { fn:=LkD P w K mg base cl k,gl:=fun x d=>∃v u,Vf d=some v∧mg x=some u∧RelV v u,fld:=LkF K cl,me:=LkM P w K mg base cl k,ini:=LkI P w K mg base cl k }
def Lnk (K:PySem.W.Frag)(mg:Str→Option Value)(x:Str)(st:Stmt):Prop:=∃(f:Addr) (oc:Value) (od an:Option Addr) (osl:Array (Option Value)) (kV doc pm cdv ct:Value),
 mg x=some (.ref f)∧PySem.W.keepIn K (.ref f)=true∧K.lookup f=some ⟨oc,od,.func (PySem.W.fnOf x x (defArgs st) (defBody st) (defScope st) .none kV doc pm an cdv ct),osl⟩∧PySem.W.codeIn K cdv x=true
theorem Y3 {h:Heap}{x:Str}{st:Stmt}{f:Addr}{oc:Value}{od an:Option Addr}{osl:Array (Option Value)}{kV doc pm cdv ct:Value}(X:K.In h)(G:h.Ns mainGlobals mg)(a:PySem.W.nsIn K mainGlobals x=some (some (.ref f)))
  (l:K.lookup f=some ⟨oc,od,.func (PySem.W.fnOf x x (defArgs st) (defBody st) (defScope st) .none kV doc pm an cdv ct),osl⟩) (c:PySem.W.codeIn K cdv x=true) (kk:PySem.W.keepIn K (.ref f)=true):Lnk K mg x st:=
 ⟨f,oc,od,an,osl,kV,doc,pm,cdv,ct,PySem.W.mg_of X G a,kk,l,c⟩
abbrev YF (x:Str)(st:Stmt)(ps:List Str):Prop:=∀(kV doc pm:Value)(an:Option Addr)(cdv ct:Value)(us:List Value),us.length=ps.length→bindArgs (PySem.W.fnOf x x (defArgs st) (defBody st) (defScope st) .none kV doc pm an cdv ct) ⟨us,[]⟩=pure (ps.zip us)
def scOk (N ps:List Str)(sc:Scope):Bool:=
 (match sc.kind with | .function=>true | _=>false) && !sc.isCoroutine && !sc.isGenerator && decide N.Nodup && decide (N.take ps.length=ps) && ps.all (fun x=>match sc.names.lookup x with | some .local=>true | some .cell=>true | _=>false) && sc.names.all (fun y=>match y.2 with | .free=>false | _=>true)
theorem ZlA {N ps:List Str}{sc:Scope}(h:scOk N ps sc=true):FnScope N ps sc:=by
 unfold scOk at h
 simp only[Bool.and_eq_true,Bool.not_eq_true',decide_eq_true_eq,List.all_eq_true] at h
 obtain⟨⟨⟨⟨⟨⟨h1,h2⟩,h3⟩,h4⟩,h5⟩,h6⟩,h7⟩:=h
 refine⟨?_,h2,h3,h4,h5,fun x hx=>?_,fun y hy e=>?_⟩
 · split at h1
   · next e=>exact e
   · cases h1
 · have:=h6 x hx
   split at this
   · next e=>exact .inl e
   · next e=>exact .inr e
   · cases this
 · have:=h7 y hy
   rw[e] at this
   cases this
theorem Zie {H:Hp}{S:Za}{Pn:Addr→Prop}{N:List Str}{vs:List V}{ds:List D}(r:Zb K H S Pn vs ds):REnv K H S Pn (L2.start N vs) (XS N.length ds):=by
 have hl:=r.length
 refine⟨by unfold L2.start XS;simp[hl],fun i d h=>?_⟩
 unfold XS at h
 unfold L2.start
 by_cases hi:i<ds.length
 · rw[List.getElem?_append_left (by simpa using hi),List.getElem?_map] at h
   rw[List.getElem?_append_left (by simpa [hl] using hi),List.getElem?_map]
   cases e:ds[i]? with
   | none=>rw[e] at h;cases h
   | some d'=>
     rw[e] at h
     cases h
     obtain⟨v,h1,h2⟩:=r.get e
     exact⟨v,by rw[h1];rfl,h2⟩
 · rw[List.getElem?_append_right (by simpa using hi)] at h
   rw[List.getElem?_replicate] at h
   split at h <;> cases h
theorem Zbn {k:Nat}{f:Addr}{nm qn:Str}{st:Stmt}{oc:Value}{od an:Option Addr}{osl:Array (Option Value)}{kV doc pm cdv ct:Value}{N ps:List Str}{body:Cs}{sp:ZA}(lk:K.lookup f=some ⟨oc,od,.func (PySem.W.fnOf nm qn (defArgs st) (defBody st) (defScope st) .none kV doc pm an cdv ct),osl⟩)
  (hcd:PySem.W.codeIn K cdv qn=true) (hsc:scOk N ps (defScope st)=true) (hc:Z5 ⟨N,defScope st,fun _=>true⟩ body (defBody st)=true) (blt:∀x∈Z6,mg x=none) (ok:FOk (ctx P w K mg base cl k) N.length ps.length body sp) :
  YV P w K mg base (k+1) f (PySem.W.fnOf nm qn (defArgs st) (defBody st) (defScope st) .none kV doc pm an cdv ct) ps (YI K cl sp):=by
 have S:=ZlA hsc
 refine ZmR lk hcd S (fun vs H Q E ⟨ds,S0,P0,rs,rr,h⟩=>by rw[rr.length];exact(ok ds S0 _ h).1) fun A outer s H vs Q E hr hgd ⟨ds,S0,P0,rs,rr,h⟩=>?_
 obtain⟨_,hw⟩:=ok ds S0 _ h
 refine⟨cSs (cxOf CX0 P w K mg base N qn (defScope st) f cdv A outer s H E).nox (defBody st),PSs.nox c_ss,?_⟩
 have F:XF (ctx P w K mg base cl k) cl k (cxOf CX0 P w K mg base N qn (defScope st) f cdv A outer s H E).nox:=
  ⟨rfl,S.nd,rfl,hr,hgd,fun f sp h=>⟨h.mono,h.ex⟩,fun x d h=>h,blt,fun c f h=>h,fun c m sp h=>⟨h.mono,h.ex⟩,fun c sp h=>⟨h.mono,h.ex⟩⟩
 have C:XC ⟨N,defScope st,fun _=>true⟩ (cxOf CX0 P w K mg base N qn (defScope st) f cdv A outer s H E).nox:=⟨rfl,rfl,fun _ _=>rfl⟩
 have fin:∀v H',lift K cl false (letGo fun d S'=>∀v H',Le H S0 P0 H' S'→RS K cl H' S' P0→Rep K H' S' P0 v d→Q v H') H S0 P0 v H'→Q v H':=by
  rintro v H' ⟨d,S',le,rs',r,⟨S'',sub,q⟩,_⟩
  exact q v H' (le.trans (Le.drop rs' sub)) (rs'.drop sub) (Rep.le rs' (Le.drop rs' sub) _ r)
 refine VT (WC F C body (defBody st) hc (L2.start N vs) H (XS N.length ds) S0 P0 _ rs (Zie rr) hw) (fun σ' H' ⟨ρ',S',le,rs',re',q⟩=>?_) (fun v H' l=>fin v H' l) (fun _ _ z=>z.elim) fun _ _ z=>z.elim
 exact fin .non H' ⟨.non,S',le,rs',.non,q,fun e=>by cases e⟩
theorem YY {k:Nat}{x:Str}{st:Stmt}{N ps:List Str}{body:Cs}{sp:ZA}(L:Lnk K mg x st)(hsc:scOk N ps (defScope st)=true)(hb:YF x st ps)(hc:Z5 ⟨N,defScope st,fun _=>true⟩ body (defBody st)=true)
  (blt:∀x∈Z6,mg x=none) (mono:∀ds S Q Q',(∀d S',Q d S'→Q' d S')→sp ds S Q→sp ds S Q') (ok:FOk (ctx P w K mg base cl k) N.length ps.length body sp):LkD P w K mg base cl (k+1) x sp:=by
 obtain⟨f,oc,od,an,osl,kV,doc,pm,cdv,ct,h1,h2,lk,hcd⟩:=L
 exact⟨mono,f,_,ps,h1,h2,.all (hb kV doc pm an cdv ct),Zbn lk hcd hsc hc blt ok⟩
def LnkM (K:PySem.W.Frag)(mg:Str→Option Value)(c m qn:Str)(st:Stmt):Prop:=∃(C f:Addr) (oc:Value) (od an:Option Addr) (osl:Array (Option Value)) (kV doc pm cdv ct:Value),
 mg c=some (.ref C)∧Cls K C∧Meth K C m f∧K.lookup f=some ⟨oc,od,.func (PySem.W.fnOf m qn (defArgs st) (defBody st) (defScope st) .none kV doc pm an cdv ct),osl⟩∧PySem.W.codeIn K cdv qn=true
abbrev Zcu (m qn:Str)(st:Stmt)(ps:List Str):Prop:=∀(kV doc pm:Value)(an:Option Addr)(cdv ct:Value)(us:List Value),us.length=ps.length→bindArgs (PySem.W.fnOf m qn (defArgs st) (defBody st) (defScope st) .none kV doc pm an cdv ct) ⟨us,[]⟩=pure (ps.zip us)
theorem Zhw {k:Nat}{c m qn:Str}{st:Stmt}{N ps:List Str}{body:Cs}{sp:ZA}(L:LnkM K mg c m qn st)(hcl:cl=clOf mg)(hsc:scOk N ps (defScope st)=true)(hb:Zcu m qn st ps)(hc:Z5 ⟨N,defScope st,fun _=>true⟩ body (defBody st)=true)
  (blt:∀x∈Z6,mg x=none) (mono:∀ds S Q Q',(∀d S',Q d S'→Q' d S')→sp ds S Q→sp ds S Q') (ok:FOk (ctx P w K mg base cl k) N.length ps.length body sp):LkM P w K mg base cl (k+1) c m sp:=by
 obtain⟨C,f,oc,od,an,osl,kV,doc,pm,cdv,ct,h1,h2,h3,lk,hcd⟩:=L
 exact⟨mono,C,f,_,ps,by rw[hcl];unfold clOf;rw[h1],h2,h3,.all (hb kV doc pm an cdv ct),Zbn lk hcd hsc hc blt ok⟩
def LnkI (K:PySem.W.Frag)(mg:Str→Option Value)(c qn:Str)(st:Stmt):Prop:=∃(C f:Addr) (oc:Value) (od an:Option Addr) (osl:Array (Option Value)) (kV doc pm cdv ct:Value),
 mg c=some (.ref C)∧Mk K C f∧K.lookup f=some ⟨oc,od,.func (PySem.W.fnOf "__init__" qn (defArgs st) (defBody st) (defScope st) .none kV doc pm an cdv ct),osl⟩∧PySem.W.codeIn K cdv qn=true
theorem Zhv {k:Nat}{c qn:Str}{st:Stmt}{N ps:List Str}{body:Cs}{sp:ZA}(L:LnkI K mg c qn st)(hcl:cl=clOf mg)(hsc:scOk N ps (defScope st)=true)(hb:Zcu "__init__" qn st ps) (hc:Z5 ⟨N,defScope st,fun _=>true⟩ body (defBody st)=true)
  (blt:∀x∈Z6,mg x=none) (mono:∀ds S Q Q',(∀d S',Q d S'→Q' d S')→sp ds S Q→sp ds S Q') (ok:FOk (ctx P w K mg base cl k) N.length ps.length body sp):LkI P w K mg base cl (k+2) c sp:=by
 obtain⟨C,f,oc,od,an,osl,kV,doc,pm,cdv,ct,h1,h2,lk,hcd⟩:=L
 exact⟨mono,C,f,_,ps,k+1,Nat.le_refl _,h1,by rw[hcl];unfold clOf;rw[h1],h2,.all (hb kV doc pm an cdv ct),Zbn lk hcd hsc hc blt ok⟩
end
end Sw
namespace Sw
open PySem PySem.Spec PyProof.Rows L2
def V5 (n:Nat):ZA:=fun ds S Q=>∃ns:List Int,ds=[.scr (ns.map .int)]∧ns.length≤n∧(∀a,S a=none)∧∀S',Q (.bl true) S'
theorem Zf3 (n:Nat):∀ds S Q Q',(∀d S',Q d S'→Q' d S')→V5 n ds S Q→V5 n ds S Q':=fun ds S Q Q' m ⟨ns,h1,h2,h3,h4⟩=>⟨ns,h1,h2,h3,fun S'=>m _ _ (h4 S')⟩
theorem ZdT {K:PySem.W.Frag}{H:Hp}{S:Za}{P:Addr→Prop}:∀ns:List Int,Zb K H S P (ns.map V.int) (ns.map D.int)
 | []=>.nil
 | i :: r=>.cons (.int i) (ZdT r)
theorem Zlb {P:Program}{w:World}{K:PySem.W.Frag}{mg mb:Str→Option Value}{k n:Nat}{fa a:Addr}{x:Str}{s₁:Shared}{vs:List Value}{ns:List Int}
  (KX:K.In s₁.heap) (hns:s₁.heap.Ns mainGlobals mg) (hb:s₁.heap.Ns builtinsNs mb) (hbb:∀x:Str,x ≠ "__name__" →mb x=bootBuiltins x) (hlim:s₁.heap.NoLimit) (hg:s₁.gens=#[])
  (ha:s₁.heap.get? a=some { cls:=.type "list",data:=.seq vs.toArray }) (hi:IntsAre vs ns) (hl:ns.length≤n) (hn:n≤sizeLine) (hr:Room k callerA) (hmg:mg x=some (.ref fa)) (hsm:∃o,s₁.heap.get? sysModules=some o) (hKs:K.lookup sysModules=none)
  (F:∀base:Heap,K.In base→base.Ns mainGlobals mg→LkD P w K mg base (clOf mg) k x (V5 n)) :
  codeAny (model P w) callerA (.call (.ref fa) ⟨[.ref a],[]⟩) (fun r s'=>r=.ok (.ret (.bool true))∧OldK s₁.heap s'.heap∧s'.os=s₁.os∧AllBare s'.gens) s₁:=by
 have rv:=vals_ints hi
 have lenV:=hi.length
 have core:∀H:Hp,(∀b,H b=none∨∃o u,H b=some (.frz o u))→SqS K H a (ns.map V.int)→HOk P w H s₁.heap→(∀b,H b≠none→b=a∨b=sysModules)→(∀b,H b≠none→K.lookup b=none)→(∃u,H sysModules=some u∧¬Mut (some u))→
   codeAny (model P w) callerA (.call (.ref fa) ⟨[.ref a],[]⟩) (fun r s'=>r=.ok (.ret (.bool true))∧OldK s₁.heap s'.heap∧s'.os=s₁.os∧AllBare s'.gens) s₁:=by
  intro H hO hS hok hA hK hM0
  have nsK:∀ {b:Addr} {m:Str→Option Value},s₁.heap.Ns b m→b≠sysModules→(hidT s₁.heap H).Ns b m:=by
   rintro b m ⟨o,es,ep,e,d,r⟩ hb
   refine⟨o,es,ep,hidT_get e ?_,d,r⟩
   cases q:H b with
   | none=>rfl
   | some u=>
     rcases hA b (by rw[q];simp) with eb | eb
     · subst eb
       rw[ha] at e;cases e
       have d':Data.seq vs.toArray _=Data.dict es ep:=d
       cases d'
     · exact absurd eb hb
  have hKb:K.In (hidT s₁.heap H):=fun b o e=>hidT_get (KX b o e) (by
   cases q:H b with
   | none=>rfl
   | some u=>rw[hK b (by rw[q];simp)] at e;cases e)
  obtain⟨mc,c1,c2⟩:=hlim
  have hM:Mod K mg (hidT s₁.heap H):=⟨hKb,nsK hns (by decide),⟨mb,nsK hb (by decide),hbb⟩,⟨mc,nsK c1 (by decide),c2⟩⟩
  have e0:Env0 P w K mg (hidT s₁.heap H) callerA [] s₁ H:=⟨rfl,hM,fun b o e=>of_hidT e,Nat.le_of_eq (hidT_size _ _),trivial,fun b hb=>absurd (show b∈([]:List Addr) from hb) (by simp),hok,.of_eq hg⟩
  obtain⟨mono,f,fd,ps,m1,m2,m3,FN⟩:=F _ hKb (nsK hns (by decide))
  rw[hmg] at m1
  cases m1
  have sp:YI K (clOf mg) (V5 n) [.ref a] H (fun v _=>v=.bl true) fun _ _ _=>False:=
   ⟨[.scr (ns.map .int)],fun _=>none,fun _=>False,⟨fun _ _ e=>(by cases e),fun _ z=>False.elim z,hM0⟩,.cons (.scr hS (ZdT ns)) .nil,ns,rfl,hl,fun _=>rfl,fun S' v H' _ _ r=>by cases r;rfl⟩
  have hlp:1=ps.length:=FN.len _ _ _ _ sp
  have hbind:=m3 s₁ [.ref a] KX (by rw[List.append_nil];exact hlp)
  rw[List.append_nil] at hbind
  refine codeAny_mono (FN.run callerA [] s₁ H ⟨[.ref a],[]⟩ [.ref a] [.ref a] _ _ hr rfl e0 hbind (.cons rfl .nil) sp) fun r s' h=>?_
  cases r with
  | error e=>exact False.elim h
  | ok fl=>
    cases fl with
    | next=>exact False.elim h
    | brk=>exact False.elim h
    | cont=>exact False.elim h
    | ret u=>
      obtain⟨v,H',os,bare,un,hok',r',q⟩:=h
      have q':v=.bl true:=q
      subst q'
      obtain rfl:u=Value.bool true:=r'
      refine⟨rfl,OldK.of_keep fun b o e=>?_,os,bare⟩
      cases q:H b with
      | none=>exact un.keep b o e q (by intro z;exact absurd (show b∈([]:List Addr) from z) (by simp)) (by simp)
      | some u=>
        rcases hO b with z |⟨ob,xs,z⟩
        · rw[q] at z;cases z
        · have z2:=un.frzs b ob _ z
          obtain⟨e1,_⟩:=hok b _ z
          obtain⟨e2,_⟩:=hok' b _ z2
          rw[e] at e1;cases e1
          exact e2
 have hl':ns.length≤sizeLine:=Nat.le_trans hl hn
 obtain⟨om,hom⟩:=hsm
 have extOk:∀H:Hp,ObjOk P w H s₁.heap sysModules (.frz om (.ext fun _=>True)):=fun H=>⟨hom,trivial,⟨om,hom⟩,fun _ _ _ _=>trivial⟩
 have nm:∀ {o:Obj} {u:HO},¬Mut (some (.frz o u)):=fun z=>z
 by_cases hk:K.lookup a=none
 · by_cases hae:a=sysModules
   · let Hs:Hp:=fun b=>if b=a then some (.frz { cls:=.type "list",data:=.seq vs.toArray } (.lst (ns.map V.int))) else none
     have hs1:Hs a=some (.frz { cls:=.type "list",data:=.seq vs.toArray } (.lst (ns.map V.int))):=if_pos rfl
     have hs2:∀b,b≠a→Hs b=none:=fun b h=>if_neg h
     refine core Hs (fun b=>?_) (.inl ⟨_,hs1⟩) (fun b u z=>?_) (fun b z=>?_) (fun b z=>?_) ⟨_,by rw[← hae];exact hs1,nm⟩
     · by_cases hb:b=a
       · exact .inr ⟨_,_,by rw[hb];exact hs1⟩
       · exact .inl (hs2 b hb)
     · by_cases hb:b=a
       · subst hb
         rw[hs1] at z
         cases z
         exact⟨ha,by rw[List.length_map];exact hl',vs,_,rv,ha⟩
       · rw[hs2 b hb] at z;cases z
     · by_cases hb:b=a
       · exact .inl hb
       · exact absurd (hs2 b hb) z
     · by_cases hb:b=a
       · rw[hb];exact hk
       · exact absurd (hs2 b hb) z
   · let Hs:Hp:=fun b=>if b=a then some (.frz { cls:=.type "list",data:=.seq vs.toArray } (.lst (ns.map V.int))) else if b=sysModules then some (.frz om (.ext fun _=>True)) else none
     have hs1:Hs a=some (.frz { cls:=.type "list",data:=.seq vs.toArray } (.lst (ns.map V.int))):=if_pos rfl
     have hs3:Hs sysModules=some (.frz om (.ext fun _=>True)):=by show(if _ then _ else _)=_;rw[if_neg (fun z=>hae z.symm),if_pos rfl]
     have hs2:∀b,b≠a→b≠sysModules→Hs b=none:=fun b h h2=>by show(if _ then _ else _)=_;rw[if_neg h,if_neg h2]
     refine core Hs (fun b=>?_) (.inl ⟨_,hs1⟩) (fun b u z=>?_) (fun b z=>?_) (fun b z=>?_) ⟨_,hs3,nm⟩
     · by_cases hb:b=a
       · exact .inr ⟨_,_,by rw[hb];exact hs1⟩
       · by_cases hb2:b=sysModules
         · exact .inr ⟨_,_,by rw[hb2];exact hs3⟩
         · exact .inl (hs2 b hb hb2)
     · by_cases hb:b=a
       · subst hb
         rw[hs1] at z
         cases z
         exact⟨ha,by rw[List.length_map];exact hl',vs,_,rv,ha⟩
       · by_cases hb2:b=sysModules
         · subst hb2
           rw[hs3] at z
           cases z
           exact extOk _
         · rw[hs2 b hb hb2] at z;cases z
     · by_cases hb:b=a
       · exact .inl hb
       · by_cases hb2:b=sysModules
         · exact .inr hb2
         · exact absurd (hs2 b hb hb2) z
     · by_cases hb:b=a
       · rw[hb];exact hk
       · by_cases hb2:b=sysModules
         · rw[hb2];exact hKs
         · exact absurd (hs2 b hb hb2) z
 · obtain⟨o,hk⟩:∃o,K.lookup a=some o:=by
    cases e:K.lookup a with
    | none=>exact absurd e hk
    | some o=>exact⟨o,rfl⟩
   have e:=KX a o hk
   rw[ha] at e
   cases e
   let Hs:Hp:=fun b=>if b=sysModules then some (.frz om (.ext fun _=>True)) else none
   have hs3:Hs sysModules=some (.frz om (.ext fun _=>True)):=if_pos rfl
   have hs2:∀b,b≠sysModules→Hs b=none:=fun b h2=>if_neg h2
   refine core Hs (fun b=>?_) (.inr ⟨_,vs.toArray,_,hk,rfl,rfl,rfl,by rw[List.size_toArray,lenV];exact hl',by simpa using rv⟩) (fun b u z=>?_) (fun b z=>?_) (fun b z=>?_) ⟨_,hs3,nm⟩
   · by_cases hb2:b=sysModules
     · exact .inr ⟨_,_,by rw[hb2];exact hs3⟩
     · exact .inl (hs2 b hb2)
   · by_cases hb2:b=sysModules
     · subst hb2
       rw[hs3] at z
       cases z
       exact extOk _
     · rw[hs2 b hb2] at z;cases z
   · by_cases hb2:b=sysModules
     · exact .inr hb2
     · exact absurd (hs2 b hb2) z
   · by_cases hb2:b=sysModules
     · rw[hb2];exact hKs
     · exact absurd (hs2 b hb2) z
theorem walk {l:PySem.W.OpenLaw}{n k:Nat}{q:Program}{loose:List Str}{XP:(Str→Option Value)→Heap→Prop}{YP:World→Heap→Prop}{d:DefRec}{K:Params→PySem.W.Frag}
  (hn:l.most=some n) (hn2:n≤sizeLine) (hdf:d.params.defaults=[]) (hr:Room k callerA) (hY:∀(w:World)(h:Heap),YP w h→(K w.params).In h∧(h.get? sysModules).isSome=true) (hKs:∀w:World,(K w.params).lookup sysModules=none)
  (F:∀(w:World)(mg:Str→Option Value)(fa:Addr)(h:Heap),(K w.params).In h→h.Ns mainGlobals mg→mg d.name=some (.ref fa)→
   ∀base:Heap,(K w.params).In base→base.Ns mainGlobals mg→LkD l.prog w (K w.params) mg base (clOf mg) k d.name (V5 n)) :
  PySem.W.WalkO q loose XP YP l.row.toRowW d [] (fun f vs=>PySem.call f vs):=by
 refine Att.attach_call hn hdf fun w s₀ s₁ mg mb fa o pm cd doc a vs ns G Y ho hd hcd hmg hobj hints hlen hg=>?_
 exact Zlb (hY w _ Y).1 G.T.g G.T.b G.T.builtins G.T.nolimit hg hobj hints hlen hn2 hr hmg (Option.isSome_iff_exists.mp (hY w _ Y).2) (hKs w) (F w mg fa _ (hY w _ Y).1 G.T.g hmg)
def smHook (K:Params→PySem.W.Frag)(as:List Addr)(e:∀P,as=(K P).map (·.1)):PySem.W.Hook:=
 ⟨List (Option Obj)×Bool,fun s=>(as.map s.heap.get?,(s.heap.get? sysModules).isSome),fun w=>((K w.params).map fun p=>some p.2,true),fun w h=>PySem.W.InK K w h∧(h.get? sysModules).isSome=true,
  fun w s z=>⟨PySem.W.InK.of e w s (congrArg Prod.fst z),congrArg Prod.snd z⟩,
  fun w h h' z k=>⟨PySem.W.InK.keeps w h h' z.1 k,by
   obtain⟨o,ho⟩:=Option.isSome_iff_exists.mp z.2
   rw[k _ _ ho];rfl⟩⟩
end Sw
namespace Sw
open PySem PySem.Spec PyProof.Rows L2
theorem Zmh {K:PySem.W.Frag}{mg:Str→Option Value}{h:Heap}(X:K.In h)(G:h.Ns mainGlobals mg)(b1:PySem.W.nsIn K mainGlobals "len" = some none) (b2:PySem.W.nsIn K mainGlobals "abs" = some none) (b3:PySem.W.nsIn K mainGlobals "range" = some none)
  (b4:PySem.W.nsIn K mainGlobals "isinstance" = some none) (b5:PySem.W.nsIn K mainGlobals "tuple" = some none) (b6:PySem.W.nsIn K mainGlobals "list" = some none) (b7:PySem.W.nsIn K mainGlobals "min" = some none) (b8:PySem.W.nsIn K mainGlobals "max" = some none)
  (b9:PySem.W.nsIn K mainGlobals "int" = some none) (b10:PySem.W.nsIn K mainGlobals "sum" = some none) (b11:PySem.W.nsIn K mainGlobals "all" = some none) (b12:PySem.W.nsIn K mainGlobals "any" = some none) (b13:PySem.W.nsIn K mainGlobals "sorted" = some none)
  (b14:PySem.W.nsIn K mainGlobals "repr" = some none) (b15:PySem.W.nsIn K mainGlobals "str" = some none) (b16:PySem.W.nsIn K mainGlobals "enumerate" = some none) (b17:PySem.W.nsIn K mainGlobals "zip" = some none) (b18:PySem.W.nsIn K mainGlobals "dict" = some none)
  (b19:PySem.W.nsIn K mainGlobals "set" = some none) (b20:PySem.W.nsIn K mainGlobals "bool" = some none):∀x∈Z6,mg x=none:=by
 intro x hx
 unfold Z6 at hx
 simp only[List.mem_cons,List.not_mem_nil,or_false] at hx
 rcases hx with rfl | rfl | rfl | rfl | rfl | rfl | rfl | rfl | rfl | rfl | rfl | rfl | rfl | rfl | rfl | rfl | rfl | rfl | rfl | rfl
 all_goals exact PySem.W.mg_none_of X G (by assumption)
end Sw
namespace Sw
open PySem
theorem nr {α:Sort _}{a b:α}(h:a=b):a=b:=h
theorem Yr {Q:Qd}{d:D}{S:Za}(h:Q d S):letGo Q d S:=⟨S,fun _ _ h=>h,h⟩
theorem Zd7 {g:Za→Prop}{turn:D→DEnv→Za→(DEnv→Za→Prop)→Prop}{Q:DEnv→Za→Prop}(I:Nat→DEnv→Za→Prop):∀(items:List D)(j:Nat){ρ:DEnv}{S:Za},I j ρ S→(∀i ρ S,I i ρ S→g S)→
  (∀i d ρ S K,items[i]?=some d→I (j+i) ρ S→(∀ρ' S',I (j+i+1) ρ' S'→K ρ' S')→turn d ρ S K)→(∀ρ S,I (j+items.length) ρ S→Q ρ S)→wFor g turn items ρ S Q
 | [],j,ρ,S,h0,hg,hs,hQ=>⟨hg _ _ _ h0,hQ _ _ h0⟩
 | d :: r,j,ρ,S,h0,hg,hs,hQ=>by
   refine⟨hg _ _ _ h0,hs 0 d ρ S _ rfl h0 fun ρ' S' h=>?_⟩
   refine Zd7 I r (j+1) h hg (fun i d ρ S K hi hI hK=>hs (i+1) d ρ S K (by simpa using hi) (by rw[← Nat.add_assoc,Nat.add_right_comm];exact hI) fun ρ' S' h=>hK ρ' S' (by
    have:j+(i+1)+1=j+1+i+1:=by omega
    rw[this] at h
    exact h)) fun ρ S h=>hQ ρ S (by
    have:j+(d :: r).length=j+1+r.length:=by rw[List.length_cons];omega
    rw[this];exact h)
theorem ZlV {g:Za→Prop}{turn:D→DEnv→Za→(DEnv→Za→Prop)→Prop}{Q:DEnv→Za→Prop}{items:List D}{ρ:DEnv}{S:Za}(I:Nat→DEnv→Za→Prop)(h0:I 0 ρ S)(hg:∀i ρ S,I i ρ S→g S)
  (hs:∀i d ρ S K,items[i]?=some d→I i ρ S→(∀ρ' S',I (i+1) ρ' S'→K ρ' S')→turn d ρ S K) (hQ:∀ρ S,I items.length ρ S→Q ρ S):wFor g turn items ρ S Q:=
 Zd7 I items 0 h0 hg (fun i d ρ S K h1 h2 h3=>hs i d ρ S K h1 (by rw[Nat.zero_add] at h2;exact h2) fun ρ' S' h=>h3 ρ' S' (by rw[Nat.zero_add];exact h)) (by rw[Nat.zero_add];exact hQ)
theorem Zce {step:D→Za→List D→(Za→List D→Prop)→Prop}{Q:List D→Za→Prop}(I:Nat→Za→List D→Prop):∀(items:List D)(j:Nat){S:Za}{acc:List D},I j S acc→
  (∀i d S acc K,items[i]?=some d→I (j+i) S acc→(∀S' acc',I (j+i+1) S' acc'→K S' acc')→step d S acc K)→(∀S acc,I (j+items.length) S acc→Q acc S)→Ys step items S acc Q
 | [],j,S,acc,h0,hs,hQ=>hQ _ _ h0
 | d :: r,j,S,acc,h0,hs,hQ=>by
   refine hs 0 d S acc _ rfl h0 fun S' acc' h=>?_
   refine Zce I r (j+1) h (fun i d S acc K hi hI hK=>hs (i+1) d S acc K (by simpa using hi) (by rw[← Nat.add_assoc,Nat.add_right_comm];exact hI) fun S' acc' h=>hK S' acc' (by
    have:j+(i+1)+1=j+1+i+1:=by omega
    rw[this] at h
    exact h)) fun S acc h=>hQ S acc (by
    have:j+(d :: r).length=j+1+r.length:=by rw[List.length_cons];omega
    rw[this];exact h)
theorem ZjM {step:D→Za→List D→(Za→List D→Prop)→Prop}{Q:List D→Za→Prop}{items:List D}{S:Za}(I:Nat→Za→List D→Prop)(h0:I 0 S [])
  (hs:∀i d S acc K,items[i]?=some d→I i S acc→(∀S' acc',I (i+1) S' acc'→K S' acc')→step d S acc K) (hQ:∀S acc,I items.length S acc→Q acc S):Ys step items S [] Q:=
 Zce I items 0 h0 (fun i d S acc K h1 h2 h3=>hs i d S acc K h1 (by rw[Nat.zero_add] at h2;exact h2) fun S' acc' h=>h3 S' acc' (by rw[Nat.zero_add];exact h)) (by rw[Nat.zero_add];exact hQ)
theorem Qj {step:D→Za→List D→(Za→List D→Prop)→Prop}{Q:List D→Za→Prop}{S:Za}(f:D→D):∀(items acc:List D),acc.length+items.length≤sizeLine→(∀d∈items,∀acc K,acc.length<sizeLine→K S (acc++[f d])→step d S acc K)→Q (acc++items.map f) S→Ys step items S acc Q
 | [],acc,_,_,q=>by rw[List.map_nil,List.append_nil] at q;exact q
 | d :: r,acc,hl,hs,q=>by
   rw[List.length_cons] at hl
   refine hs d (by simp) acc _ (by omega) (Qj f r (acc++[f d]) (by rw[List.length_append,List.length_singleton];omega) (fun d hd=>hs d (List.mem_cons_of_mem _ hd)) ?_)
   rw[List.append_assoc]
   exact q
theorem ZW {a:Int}(h1:-(2 ^ 128)<a)(h2:a<2 ^ 128):a.natAbs.log2<128:=by
 by_cases h:a.natAbs=0
 · rw[h];decide
 · exact(Nat.log2_lt h).mpr (by omega)
theorem ZhG {a b:Int}(h1:-(2 ^ 128)<a)(h2:a<2 ^ 128)(h3:-(2 ^ 128)<b)(h4:b<2 ^ 128):a.natAbs.log2+b.natAbs.log2<1000000:=by
 have:=ZW h1 h2
 have:=ZW h3 h4
 omega
theorem UV:∀ns:List Int,D.pureAll (ns.map .int)=true
 | []=>rfl
 | i :: r=>by rw[List.map_cons,D.pureAll,UV r];rfl
def atL (S:Za)(y:D)(K:Addr→List D→Prop):Prop:=match y with | .obj a=>(match S a with | some (.lst ds)=>K a ds | _=>False) | _=>False
theorem UD {S:Za}{p:Addr}{ds:List D}{K:Addr→List D→Prop}(h:S p=some (.lst ds)):atL S (.obj p) K=K p ds:=by
 unfold atL;dsimp only;rw[h]
@[simp] theorem Zri {S:Za}{p:Addr}{ds:List D}{K:Addr→List D→Prop}:atL (sput S p (.lst ds)) (.obj p) K=K p ds:=UD Zq
def optM (o:Option (D×List D))(K:List D→Prop):Prop:=match o with | some z=>K z.2 | none=>False
@[simp] theorem Zq2 {z:D}{ds:List D}{K:List D→Prop}:optM (some (z,ds)) K=K ds:=nr rfl
@[simp] theorem ZrY {c:Prop}[Decidable c]{z:D}{ds:List D}{K:List D→Prop}:optM (if c then some (z,ds) else none) K=(c∧K ds):=by
 split
 · next h=>simp[h]
 · next h=>simp[h,optM]
@[simp] theorem Zpw {S:Za}{ds:List D}{y:D}:muD .append S ds [y]=if ds.length<sizeLine then some (.non,ds++[y]) else none:=nr rfl
@[simp] theorem Zpx {S:Za}{ds ys:List D}:muD .extend S ds [.lst ys]=if ds.length+ys.length≤sizeLine then some (.non,ds++ys) else none:=nr rfl
@[simp] theorem Zou {S:Za}{ds:List D}:muD .reverse S ds []=some (.non,ds.reverse):=nr rfl
@[simp] theorem ZqV {S:Za}{ds:List D}:muD .clear S ds []=some (.non,[]):=nr rfl
section
variable {Γ:Gam}{ρ:DEnv}{S:Za}{Q:Qd}{QL:List D→Za→Prop}{QI:List Int→Za→Prop}{QB:Bool→Za→Prop}{E:YM}{d x:D}{ds:List D}{i j:Nat}{a b c e:M}{as cs:Ms}{f y:Str}{o o':Operator}{p p':CmpOp}{no k lo hi:Bool}{t:Ty}{g:Bi}{s:Src}{own:List Nat}{tg tr:Tg}{m:Mu}{st:C}{u v body:Cs}
@[simp] theorem wE_v:Sw.wE Γ (.v i) ρ S Q=(match ρ[i]? with | some (some d)=>Q d S | _=>False):=by rw[Sw.wE] <;> rfl
@[simp] theorem wE_k:Sw.wE Γ (.k d) ρ S Q=Q d S:=by rw[Sw.wE]
@[simp] theorem wE_g:Sw.wE Γ (.g y) ρ S Q=∃d,Γ.gl y d∧Q d S:=by rw[Sw.wE]
@[simp] theorem ZwW:Sw.wE Γ (.bin o a b) ρ S Q=Sw.wE Γ a ρ S fun x S1=>Sw.wE Γ b ρ S1 fun y S2=>optD (binD o S2 x y) fun z=>Q z S2:=by rw[Sw.wE]
@[simp] theorem Zw5:Sw.wE Γ (.neg a) ρ S Q=Sw.wE Γ a ρ S fun x S1=>match x with | .int i=>Q (.int (-i)) S1 | _=>False:=by rw[Sw.wE] <;> rfl
@[simp] theorem ZwX:Sw.wE Γ (.cmp p a b) ρ S Q=Sw.wE Γ a ρ S fun x S1=>Sw.wE Γ b ρ S1 fun y S2=>optB (cmpB p S2 x y) fun z=>Q (.bl z) S2:=by rw[Sw.wE]
@[simp] theorem ZsJ:Sw.wE Γ (.chain p p' a b c) ρ S Q=Sw.wE Γ a ρ S fun x S1=>Sw.wE Γ b ρ S1 fun y S2=>optB (cmpB p S2 x y) fun z=>
   if z=true then Sw.wE Γ c ρ S2 fun w S3=>optB (cmpB p' S3 y w) fun z'=>Q (.bl z') S3 else Q (.bl false) S2:=by rw[Sw.wE]
@[simp] theorem Zw2:Sw.wE Γ (.isn no a) ρ S Q=Sw.wE Γ a ρ S fun x S1=>Q (.bl (no != isNon x)) S1:=by rw[Sw.wE]
@[simp] theorem Zw1:Sw.wE Γ (.isb no k a) ρ S Q=Sw.wE Γ a ρ S fun x S1=>match x with | .bl b'=>Q (.bl (no != (b' == k))) S1 | _=>False:=by rw[Sw.wE] <;> rfl
@[simp] theorem ZwV:Sw.wE Γ (.and a b) ρ S Q=Sw.wE Γ a ρ S fun x S1=>optB (truD S1 x) fun t=>if t=true then Sw.wE Γ b ρ S1 Q else Q x S1:=by rw[Sw.wE]
@[simp] theorem Zyq:Sw.wE Γ (.or a b) ρ S Q=Sw.wE Γ a ρ S fun x S1=>optB (truD S1 x) fun t=>if t=true then Q x S1 else Sw.wE Γ b ρ S1 Q:=by rw[Sw.wE]
@[simp] theorem Zw6:Sw.wE Γ (.not a) ρ S Q=Sw.wE Γ a ρ S fun x S1=>optB (truD S1 x) fun t=>Q (.bl (!t)) S1:=by rw[Sw.wE]
@[simp] theorem Zw3:Sw.wE Γ (.ite c a b) ρ S Q=Sw.wE Γ c ρ S fun x S1=>optB (truD S1 x) fun t=>if t=true then Sw.wE Γ a ρ S1 Q else Sw.wE Γ b ρ S1 Q:=by rw[Sw.wE]
@[simp] theorem Zw9:Sw.wE Γ (.tup as) ρ S Q=Sw.wEs Γ as ρ S fun ds S1=>ds.length≤sizeLine∧Q (.tup ds) S1:=by rw[Sw.wE]
@[simp] theorem Zw4:Sw.wE Γ (.lst as) ρ S Q=Sw.wEs Γ as ρ S fun ds S1=>ds.length≤sizeLine∧Q (.lst ds) S1:=by rw[Sw.wE]
@[simp] theorem ZwY {ks:List Str}:Sw.wE Γ (.dct ks as) ρ S Q=Sw.wEs Γ as ρ S fun ds S1=>Q (.dic (ks.map Sum.inr) ds) S1:=by rw[Sw.wE]
@[simp] theorem Zw0:Sw.wE Γ (.isa t a) ρ S Q=Sw.wE Γ a ρ S fun x S1=>optB (isaD t S1 x) fun b=>Q (.bl b) S1:=by rw[Sw.wE]
@[simp] theorem Zyn:Sw.wE Γ (.bi g as) ρ S Q=Sw.wEs Γ as ρ S fun ds S1=>optD (biD g S1 ds) fun z=>Q z S1:=by rw[Sw.wE]
@[simp] theorem Zyo:Sw.wE Γ (.ix a b) ρ S Q=Sw.wE Γ a ρ S fun x S1=>Sw.wE Γ b ρ S1 fun y S2=>optD (ixOf S2 x y) fun z=>Q z S2:=by rw[Sw.wE]
@[simp] theorem Zu2:Sw.wE Γ (.sl false false a .nil) ρ S Q=Sw.wE Γ a ρ S fun x S1=>optD (slOf S1 x none none) fun z=>Q z S1:=by rw[Sw.wE];simp only[wIs] <;> rfl
@[simp] theorem Zu4:Sw.wE Γ (.sl true false a (.cons b .nil)) ρ S Q=Sw.wE Γ a ρ S fun x S1=>Sw.wE Γ b ρ S1 fun y S2=>match y with | .int l=>optD (slOf S2 x (some l) none) fun z=>Q z S2 | _=>False:=by rw[Sw.wE];simp only[wIs] <;> rfl
@[simp] theorem Zu3:Sw.wE Γ (.sl false true a (.cons b .nil)) ρ S Q=Sw.wE Γ a ρ S fun x S1=>Sw.wE Γ b ρ S1 fun y S2=>match y with | .int l=>optD (slOf S2 x none (some l)) fun z=>Q z S2 | _=>False:=by rw[Sw.wE];simp only[wIs] <;> rfl
@[simp] theorem Zu5:Sw.wE Γ (.sl true true a (.cons b (.cons c .nil))) ρ S Q=Sw.wE Γ a ρ S fun x S1=>Sw.wE Γ b ρ S1 fun y S2=>match y with | .int l=>Sw.wE Γ c ρ S2 (fun w S3=>match w with | .int h=>optD (slOf S3 x (some l) (some h)) fun z=>Q z S3 | _=>False) | _=>False:=by rw[Sw.wE];simp only[wIs] <;> rfl
@[simp] theorem ZuX:Sw.wE Γ (.call f as) ρ S Q=∃sp,Γ.fn f sp∧Sw.wEs Γ as ρ S fun ds S1=>sp ds S1 Q:=by rw[Sw.wE]
@[simp] theorem ZuY:Sw.wE Γ (.comp s as own tg cs e) ρ S Q=Sw.wEs Γ as ρ S fun ds S1=>∃items,srcD s S1 ds=some items∧
   Ys (fun d S acc K=>srcD s S ds=some items∧∃ρ',setT tg d (wipeD ρ own)=some ρ'∧
     wTs Γ cs ρ' S fun t S'=>if t=true then Sw.wE Γ e ρ' S' fun y S''=>acc.length<sizeLine∧K S'' (acc++[y]) else K S' acc) items S1 [] (fun acc S'=>srcD s S' ds=some items∧Q (.lst acc) S'):=by rw[Sw.wE]
@[simp] theorem Zu0 {me:Me}:Sw.wE Γ (.meth me a as) ρ S Q=Sw.wE Γ a ρ S fun x S1=>Y1 x=true∧Sw.wEs Γ as ρ S1 fun ds S2=>optD (meD me S2 x ds) fun z=>Q z S2:=by rw[Sw.wE]
@[simp] theorem Zw7:Sw.wE Γ (.own a) ρ S Q=Sw.wE Γ a ρ S fun x S1=>match x with
   | .lst ds=>∀p,S1 p=none→Q (.obj p) (sput S1 p (.lst ds))
   | .dic ks ds=>∀p,S1 p=none→Q (.obj p) (sput S1 p (.dic (ks.zip ds)))
   | _=>False:=by rw[Sw.wE] <;> rfl
@[simp] theorem ZwZ:Sw.wE Γ (.frz a) ρ S Q=Sw.wE Γ a ρ S fun x S1=>match x with
   | .obj p=>match S1 p with | some (.lst ds)=>Q (.lst ds) (sdel S1 p) | some (.dic kvs)=>Q (.dic (kvs.map (·.1)) (kvs.map (·.2))) (sdel S1 p) | _=>False
   | _=>False:=by rw[Sw.wE] <;> rfl
@[simp] theorem ZuZ:Sw.wE Γ (.lset a) ρ S Q=Sw.wE Γ a ρ S fun x S1=>optD (YO S1 x) fun z=>Q z S1:=by rw[Sw.wE]
@[simp] theorem Zu6:Sw.wE Γ (.sset a) ρ S Q=Sw.wE Γ a ρ S fun x S1=>optD (YQ S1 x) fun z=>Q z S1:=by rw[Sw.wE]
@[simp] theorem Zym:Sw.wE Γ (.at a y) ρ S Q=Sw.wE Γ a ρ S fun x S1=>match insD S1 x with
   | some (c,fs)=>Γ.fld c y∧optD (fs.lookup y) fun z=>Q z S1
   | none=>False:=by rw[Sw.wE] <;> rfl
@[simp] theorem Zw8 {ml:Ml}:Sw.wE Γ (.tel ml a as) ρ S Q=Sw.wE Γ a ρ S fun x S1=>mlTy ml S1 x=true∧Sw.wEs Γ as ρ S1 fun ds S2=>optD (mlD ml S2 x ds) fun z=>Q z S2:=by rw[Sw.wE]
@[simp] theorem ZsK:Sw.wE Γ (.mcall a y as) ρ S Q=Sw.wE Γ a ρ S fun x S1=>match insD S1 x with
   | some (c,fs)=>fs.lookup y=none∧∃sp,Γ.me c y sp∧Sw.wEs Γ as ρ S1 fun ds S2=>sp (x :: ds) S2 Q
   | none=>False:=by rw[Sw.wE] <;> rfl
@[simp] theorem Zyp:Sw.wE Γ (.mk y as) ρ S Q=∃sp,Γ.ini y sp∧Sw.wEs Γ as ρ S fun ds S1=>∀p,S1 p=none→sp (.obj p :: ds) (sput S1 p (.ins y [])) fun v S2=>v=.non∧Q (.obj p) S2:=by rw[Sw.wE]
@[simp] theorem Zu7:Sw.wEs Γ .nil ρ S QL=QL [] S:=by rw[Sw.wEs]
@[simp] theorem ZsL:Sw.wEs Γ (.cons a as) ρ S QL=Sw.wE Γ a ρ S fun x S1=>Sw.wEs Γ as ρ S1 fun xs S2=>QL (x :: xs) S2:=by rw[Sw.wEs]
@[simp] theorem Zu8:wTs Γ .nil ρ S QB=QB true S:=by rw[wTs]
@[simp] theorem Zu9:wTs Γ (.cons a .nil) ρ S QB=Sw.wE Γ a ρ S fun x S1=>optB (truD S1 x) fun t=>QB t S1:=by rw[wTs]
@[simp] theorem Zyr:wT Γ a ρ S QB=Sw.wE Γ a ρ S fun x S1=>optB (truD S1 x) fun t=>QB t S1:=nr rfl
@[simp] theorem ZwL:wC Γ (.asg tg e) E ρ S=Sw.wE Γ e ρ S fun x S1=>match setT tg x ρ with | some ρ'=>E.nx ρ' S1 | none=>False:=by rw[wC] <;> rfl
@[simp] theorem ZwR:wC Γ (.par i j a b) E ρ S=Sw.wE Γ a ρ S fun x S1=>Sw.wE Γ b ρ S1 fun y S2=>E.nx ((ρ.set i (some x)).set j (some y)) S2:=by rw[wC]
@[simp] theorem ZwM:wC Γ (.aug i o e) E ρ S=(match ρ[i]? with
   | some (some (.int x))=>Sw.wE Γ e ρ S fun y S1=>match o,y with
     | .Add,.int y=>E.nx (ρ.set i (some (.int (x+y)))) S1
     | .Sub,.int y=>E.nx (ρ.set i (some (.int (x - y)))) S1
     | _,_=>False
   | _=>False):=by rw[wC] <;> rfl
@[simp] theorem ZwU:wC Γ (.sub a b e) E ρ S=Sw.wE Γ e ρ S fun x S1=>Sw.wE Γ a ρ S1 fun y S2=>Sw.wE Γ b ρ S2 fun z S3=>match subD S3 y z x with | some S4=>E.nx ρ S4 | none=>False:=by rw[wC] <;> rfl
@[simp] theorem ZwN:wC Γ (.exp e) E ρ S=Sw.wE Γ e ρ S fun _ S1=>E.nx ρ S1:=by rw[wC]
theorem ZgO {Sx:Za}{p:Addr}{xs:List D}{K:List D→Prop}:(∃ds z ds',Sx p=some (.lst ds)∧muD m Sx ds xs=some (z,ds')∧K ds')=atL Sx (.obj p) fun _ ds=>optM (muD m Sx ds xs) K:=by
 refine propext ⟨?_,?_⟩
 · rintro⟨ds,z,ds',h2,h3,h4⟩
   rw[UD h2,h3]
   exact h4
 · intro h
   unfold atL at h
   dsimp only at h
   split at h
   · next ds h2=>
     cases h3:muD m Sx ds xs with
     | none=>rw[h3] at h;exact h.elim
     | some zd=>rw[h3] at h;exact⟨ds,zd.1,zd.2,h2,h3,h⟩
   · exact h.elim
@[simp] theorem ZwQ:wC Γ (.mut m a as) E ρ S=Sw.wE Γ a ρ S fun y S1=>atL S1 y fun p _=>Sw.wEs Γ as ρ S1 fun xs S2=>atL S2 (.obj p) fun _ ds=>optM (muD m S2 ds xs) fun ds'=>E.nx ρ (sput S2 p (.lst ds')):=by
 rw[wC]
 congr 1
 funext y S1
 refine propext ⟨?_,?_⟩
 · rintro⟨p,ds1,rfl,h1,h⟩
   rw[UD h1]
   simp only[ZgO] at h
   exact h
 · intro h
   unfold atL at h
   dsimp only at h
   split at h
   · next p=>
     split at h
     · next ds1 h1=>
       refine⟨p,ds1,rfl,h1,?_⟩
       simp only[ZgO]
       exact h
     · exact h.elim
   · exact h.elim
def optV (o:Option (D×List D))(K:D→List D→Prop):Prop:=match o with | some z=>K z.1 z.2 | none=>False
@[simp] theorem Zq4 {z:D}{ds:List D}{K:D→List D→Prop}:optV (some (z,ds)) K=K z ds:=nr rfl
theorem ZcO {Sx:Za}{p:Addr}{xs:List D}{K:D→List D→Prop}:(∃ds z ds',Sx p=some (.lst ds)∧muD m Sx ds xs=some (z,ds')∧K z ds')=atL Sx (.obj p) fun _ ds=>optV (muD m Sx ds xs) K:=by
 refine propext ⟨?_,?_⟩
 · rintro⟨ds,z,ds',h2,h3,h4⟩
   rw[UD h2,h3]
   exact h4
 · intro h
   unfold atL at h
   dsimp only at h
   split at h
   · next ds h2=>
     cases h3:muD m Sx ds xs with
     | none=>rw[h3] at h;exact h.elim
     | some zd=>rw[h3] at h;exact⟨ds,zd.1,zd.2,h2,h3,h⟩
   · exact h.elim
@[simp] theorem Zu1:Sw.wE Γ (.mutv m a as) ρ S Q=Sw.wE Γ a ρ S fun y S1=>atL S1 y fun p _=>Sw.wEs Γ as ρ S1 fun xs S2=>atL S2 (.obj p) fun _ ds=>optV (muD m S2 ds xs) fun z ds'=>Q z (sput S2 p (.lst ds')):=by
 rw[Sw.wE]
 congr 1
 funext y S1
 refine propext ⟨?_,?_⟩
 · rintro⟨p,ds1,rfl,h1,h⟩
   rw[UD h1]
   simp only[ZcO] at h
   exact h
 · intro h
   unfold atL at h
   dsimp only at h
   split at h
   · next p=>
     split at h
     · next ds1 h1=>
       refine⟨p,ds1,rfl,h1,?_⟩
       simp only[ZcO]
       exact h
     · exact h.elim
   · exact h.elim
@[simp] theorem ZwT:wC Γ (.sat a y e) E ρ S=Sw.wE Γ e ρ S fun x S1=>Sw.wE Γ a ρ S1 fun z S2=>match satD S2 z y x with | some (c,S3)=>Γ.fld c y∧E.nx ρ S3 | none=>False:=by rw[wC] <;> rfl
@[simp] theorem ZuT:wC Γ (.dpop a b e) E ρ S=Sw.wE Γ a ρ S fun x S1=>(dicD S1 x).isSome=true∧Sw.wE Γ b ρ S1 fun z S2=>Sw.wE Γ e ρ S2 fun _ S3=>match WN S3 x z with | some S4=>E.nx ρ S4 | none=>False:=by rw[wC] <;> rfl
@[simp] theorem ZwS:wC Γ (.ret e) E ρ S=Sw.wE Γ e ρ S E.rt:=by rw[wC]
@[simp] theorem ZuV:wC Γ .retN E ρ S=E.rt .non S:=by rw[wC]
@[simp] theorem ZuU:wC Γ .pass E ρ S=E.nx ρ S:=by rw[wC]
@[simp] theorem ZwP:wC Γ (.ifs a u v) E ρ S=wT Γ a ρ S fun t S1=>if t=true then wCs Γ u E ρ S1 else wCs Γ v E ρ S1:=by rw[wC]
@[simp] theorem ZwO:wC Γ (.for s as tg body) E ρ S=Sw.wEs Γ as ρ S fun ds S1=>∃items,srcD s S1 ds=some items∧
   wFor (fun S=>srcD s S ds=some items) (fun d ρ S N=>∃ρ',setT tg d ρ=some ρ'∧wCs Γ body { E with nx:=N } ρ' S) items ρ S1 E.nx:=by rw[wC]
@[simp] theorem ZsH:wC Γ (.while a body) E ρ S=∃W:Nat→DEnv→Za→Prop,(∃m,W m ρ S)∧∀m ρ S,W m ρ S→
   wT Γ a ρ S fun t S1=>if t=true then wCs Γ body { E with nx:=fun ρ' S'=>∃m',m'<m∧W m' ρ' S' } ρ S1 else E.nx ρ S1:=by rw[wC]
@[simp] theorem ZuW:wCs Γ .nil E ρ S=E.nx ρ S:=by rw[wCs]
@[simp] theorem ZsI:wCs Γ (.cons st u) E ρ S=wC Γ st { E with nx:=fun ρ' S'=>wCs Γ u E ρ' S' } ρ S:=by rw[wCs]
@[simp] theorem Zrc {n:Nat}:XS n ds=ds.map some++List.replicate (n - ds.length) none:=nr rfl
@[simp] theorem Zfu:setT (.nm i) d ρ=some (ρ.set i (some d)):=by rw[setT]
@[simp] theorem ZuL:setT (.tp tg tr) (.tup ds) ρ=Ya (.tp tg tr) ds ρ:=by rw[setT]
@[simp] theorem Zsx:Ya (.tp tg tr) (d :: ds) ρ=(match setT tg d ρ with | some ρ'=>Ya tr ds ρ' | none=>none):=by rw[Ya] <;> rfl
@[simp] theorem Zq5:Ya .nil [] ρ=some ρ:=by rw[Ya]
@[simp] theorem Zqz:isNon .non=true:=nr rfl
@[simp] theorem ZrE:isNon (.bl k)=false:=nr rfl
@[simp] theorem Zqx {z:Int}:isNon (.int z)=false:=nr rfl
@[simp] theorem ZqA {z:Str}:isNon (.str z)=false:=nr rfl
@[simp] theorem ZqB:isNon (.tup ds)=false:=nr rfl
@[simp] theorem Zqy:isNon (.lst ds)=false:=nr rfl
@[simp] theorem Zrf:wipeD ρ []=ρ:=nr rfl
@[simp] theorem Zp5 {r:List Nat}:wipeD ρ (i :: r)=(wipeD ρ r).set i none:=nr rfl
end
section
variable {S:Za}{a b:Int}{Q:D→Prop}{QB:Bool→Prop}{d x y:D}{c:Prop}[Decidable c]{k:Bool}
@[simp] theorem Xl:optD (some d) Q=Q d:=nr rfl
@[simp] theorem ZqY:optD none Q=False:=nr rfl
@[simp] theorem ZrW:optD (if c then some d else none) Q=(c∧Q d):=by
 split
 · next h=>simp[h]
 · next h=>simp[h]
@[simp] theorem ZqX:optB (some k) QB=QB k:=nr rfl
@[simp] theorem ZqW:optB none QB=False:=nr rfl
@[simp] theorem ZrV:optB (if c then some k else none) QB=(c∧QB k):=by
 split
 · next h=>simp[h]
 · next h=>simp[h]
@[simp] theorem Zs9:binD .Add S (.int a) (.int b)=some (.int (a+b)):=nr rfl
@[simp] theorem Zte:binD .Sub S (.int a) (.int b)=some (.int (a - b)):=nr rfl
@[simp] theorem Ztc:binD .Mult S (.int a) (.int b)=if a.natAbs.log2+b.natAbs.log2<1000000 then some (.int (a * b)) else none:=nr rfl
@[simp] theorem Zta:binD .FloorDiv S (.int a) (.int b)=if 0<b∧b.natAbs.log2<9000 then some (.int (a / b)) else none:=nr rfl
@[simp] theorem Ztb:binD .Mod S (.int a) (.int b)=if 0<b then some (.int (a % b)) else none:=nr rfl
@[simp] theorem Ztd:binD .Pow S (.int a) (.int b)=if WS a b=true then some (.int (a ^ b.toNat)) else none:=nr rfl
@[simp] theorem Zrj {xs ys:List D}:binD .Add S (.lst xs) (.lst ys)=if xs.length+ys.length≤sizeLine then some (.lst (xs++ys)) else none:=nr rfl
@[simp] theorem Zrl {xs ys:List D}:binD .Add S (.tup xs) (.tup ys)=if xs.length+ys.length≤sizeLine then some (.tup (xs++ys)) else none:=nr rfl
@[simp] theorem Zrk {i j:Str}:binD .Add S (.str i) (.str j)=if i.length+j.length≤sizeLine then some (.str (i++j)) else none:=nr rfl
@[simp] theorem cmp_lt:cmpB .Lt S (.int a) (.int b)=some (decide (a<b)):=nr rfl
@[simp] theorem cmp_le:cmpB .LtE S (.int a) (.int b)=some (decide (a≤b)):=nr rfl
@[simp] theorem cmp_gt:cmpB .Gt S (.int a) (.int b)=some (decide (b<a)):=nr rfl
@[simp] theorem cmp_ge:cmpB .GtE S (.int a) (.int b)=some (decide (b≤a)):=nr rfl
@[simp] theorem cmp_eq:cmpB .Eq S x y=eqD S x y:=nr rfl
@[simp] theorem ZvE:cmpB .NotEq S x y=(eqD S x y).map (!·):=nr rfl
@[simp] theorem ZvD:cmpB .In S x y=inD S x y:=nr rfl
@[simp] theorem Ztf:cmpB .NotIn S x y=(inD S x y).map (!·):=nr rfl
theorem ZeL {p q:PyData}(h:p.depth≤64∨q.depth≤64):min p.depth q.depth≤64:=by omega
@[simp] theorem Zxx:eqD S (.int a) (.int b)=some (decide (a=b)):=by
 by_cases h:a=b <;> simp[eqD,Zl,D.pure,D.toP,PyData.depth,PyData.eqv,h]
@[simp] theorem ZnZ:truD S (.bl k)=some k:=nr rfl
@[simp] theorem ZuR:truD S (.int a)=some (a != 0):=nr rfl
@[simp] theorem ZuS:truD S .non=some false:=nr rfl
@[simp] theorem ZvF {t:Ty}:isaD t S (.bl k)=some (t == .bool || t == .int):=nr rfl
@[simp] theorem Ztl {t:Ty}:isaD t S (.int a)=some (t == .int):=nr rfl
@[simp] theorem Ztn {t:Ty}:isaD t S .non=some false:=nr rfl
@[simp] theorem Zto {t:Ty}{z:Str}:isaD t S (.str z)=some (t == .str):=nr rfl
@[simp] theorem Ztp {t:Ty}{ds:List D}:isaD t S (.tup ds)=some (t == .tuple):=nr rfl
@[simp] theorem Ztm {t:Ty}{ds:List D}:isaD t S (.lst ds)=some (t == .list):=nr rfl
@[simp] theorem ZsS:biD .abs S [.int a]=some (.int (if a<0 then -a else a)):=nr rfl
@[simp] theorem ZsW {ds:List D}:biD .len S [.lst ds]=some (.int ds.length):=nr rfl
@[simp] theorem ZsZ {ds:List D}:biD .len S [.tup ds]=some (.int ds.length):=nr rfl
@[simp] theorem ZsY {ds:List D}:biD .len S [.scr ds]=some (.int ds.length):=nr rfl
@[simp] theorem ZsV:biD .int S [.bl k]=some (.int (if k then 1 else 0)):=nr rfl
@[simp] theorem Zs6 {ds:List D}:biD .tuple S [.lst ds]=some (.tup ds):=nr rfl
@[simp] theorem Zs8 {ds:List D}:biD .tuple S [.tup ds]=some (.tup ds):=nr rfl
@[simp] theorem Zs2 {ds:List D}:biD .list S [.tup ds]=some (.lst ds):=nr rfl
@[simp] theorem Zs0 {ds:List D}:biD .list S [.lst ds]=some (.lst ds):=nr rfl
@[simp] theorem Zs4:biD .min2 S [.int a,.int b]=some (.int (if b<a then b else a)):=nr rfl
@[simp] theorem Zs3:biD .max2 S [.int a,.int b]=some (.int (if b > a then b else a)):=nr rfl
@[simp] theorem ZvJ {ds:List D}:ixOf S (.lst ds) (.int a)=ixD ds a:=nr rfl
@[simp] theorem ix_tup {ds:List D}:ixOf S (.tup ds) (.int a)=ixD ds a:=nr rfl
@[simp] theorem ZwE {ds:List D}{lo hi:Option Int}:slOf S (.lst ds) lo hi=some (.lst (cutD ds lo hi)):=nr rfl
@[simp] theorem sl_tup {ds:List D}{lo hi:Option Int}:slOf S (.tup ds) lo hi=some (.tup (cutD ds lo hi)):=nr rfl
@[simp] theorem ZwF {ds:List D}{lo hi:Option Int}:slOf S (.scr ds) lo hi=some (.lst (cutD ds lo hi)):=nr rfl
@[simp] theorem ZuN {ds:List D}:srcD .it S [.lst ds]=some ds:=nr rfl
@[simp] theorem ZuO {ds:List D}:srcD .it S [.tup ds]=some ds:=nr rfl
@[simp] theorem ZwG:srcD .rng1 S [.int b]=if -(2 ^ 62)≤b∧b<2 ^ 62 then some (ZN 0 b) else none:=nr rfl
@[simp] theorem ZwH:srcD .rng2 S [.int a,.int b]=if(-(2 ^ 62)≤a∧a<2 ^ 62)∧-(2 ^ 62)≤b∧b<2 ^ 62 then some (ZN a b) else none:=nr rfl
end
theorem Zk4 {S:Za}{p:Addr}{c:Str}{fs:List (Str×D)}(h:S p=some (.ins c fs)):insD S (.obj p)=some (c,fs):=by
 unfold insD;dsimp only;rw[h]
@[simp] theorem Zqg {S:Za}{p:Addr}{c:Str}{fs:List (Str×D)}:insD (sput S p (.ins c fs)) (.obj p)=some (c,fs):=Zk4 Zq
theorem Zk {n:Nat}(h:n≤1000000):n≤sizeLine:=Nat.le_trans h (by decide +kernel)
theorem Ui {n:Nat}(h:n<1000000):n<sizeLine:=Nat.lt_of_lt_of_le h (by decide +kernel)
end Sw
namespace Sw
open PySem
def B_pen:Cs:=
    (.cons (.ret (.own (.dct ["cells", "at", "left"] (.cons (.comp .it (.cons (.sl false true (.v 0) (.cons (.k (.int 63)) .nil)) .nil) [1] (.nm 1) .nil (.v 1)) (.cons (.k (.int 0)) (.cons (.k (.int 0)) .nil))))))
    .nil)
def L_draw:Cs:=
    (.cons (.asg (.nm 4) (.bin .Add (.bin .Add (.bin .Add (.bin .Mult (.v 4) (.v 4)) (.bin .Mult (.k (.int 69621)) (.v 4))) (.v 2)) (.v 5)))
    (.cons (.asg (.nm 4) (.bin .Mod (.v 4) (.k (.int 4294967311))))
    .nil))
def T_draw:Cs:=
    (.cons (.ifs (.and (.cmp .Lt (.v 2) (.bi .len (.cons (.ix (.v 0) (.k (.str "cells"))) .nil))) (.cmp .GtE (.bi .abs (.cons (.v 3) .nil)) (.bin .Pow (.k (.int 10)) (.k (.int 18))))) (.cons (.sub (.v 0) (.k (.str "left")) (.bin .FloorDiv (.bi .abs (.cons (.v 3) .nil)) (.v 1)))
    (.cons (.ret (.bin .Mod (.bi .abs (.cons (.v 3) .nil)) (.v 1)))
    .nil)) .nil)
    (.cons (.asg (.nm 4) (.bin .Mod (.bin .Mult (.bin .Add (.bin .Add (.bin .Mod (.v 3) (.k (.int 4294967311))) (.bin .Mult (.k (.int 65539)) (.v 2))) (.k (.int 17))) (.k (.int 48271))) (.k (.int 4294967311))))
    (.cons (.for .rng1 (.cons (.k (.int 3)) .nil) (.nm 5) L_draw)
    (.cons (.ret (.bin .Mod (.bin .FloorDiv (.v 4) (.k (.int 32))) (.v 1)))
    .nil))))
def B_draw:Cs:=
    (.cons (.ifs (.cmp .Gt (.ix (.v 0) (.k (.str "left"))) (.k (.int 0))) (.cons (.asg (.nm 6) (.bin .Mod (.ix (.v 0) (.k (.str "left"))) (.v 1)))
    (.cons (.sub (.v 0) (.k (.str "left")) (.bin .FloorDiv (.ix (.v 0) (.k (.str "left"))) (.v 1)))
    (.cons (.ret (.v 6))
    .nil))) .nil)
    (.cons (.asg (.nm 2) (.ix (.v 0) (.k (.str "at"))))
    (.cons (.sub (.v 0) (.k (.str "at")) (.bin .Add (.v 2) (.k (.int 1))))
    (.cons (.asg (.nm 3) (.bin .Add (.bin .Mult (.v 2) (.v 2)) (.k (.int 5))))
    (.cons (.ifs (.cmp .NotEq (.ix (.v 0) (.k (.str "cells"))) (.lst .nil)) (.cons (.asg (.nm 3) (.ix (.ix (.v 0) (.k (.str "cells"))) (.bin .Mod (.v 2) (.bi .len (.cons (.ix (.v 0) (.k (.str "cells"))) .nil)))))
    .nil) .nil)
    T_draw)))))
def penO (cs:List Int)(n l:Int):MO:=.dic [(.inr "cells",.lst (cs.map .int)),(.inr "at",.int n),(.inr "left",.int l)]
theorem kcl:¬(("cells" : Str) = "left"):=by decide +kernel
theorem kca:¬(("cells" : Str) = "at"):=by decide +kernel
theorem kal:¬(("at" : Str) = "left"):=by decide +kernel
theorem kla:¬(("left" : Str) = "at"):=by decide +kernel
section
variable {S:Za}{p:Addr}{cs:List Int}{n l:Int}
theorem ZdA (h:S p=some (penO cs n l)):ixOf S (.obj p) (.str "left")=some (.int l):=by
 simp[ixOf,dicD,h,penO,keyD,Xv,kcl,kal]
theorem ZnL (h:S p=some (penO cs n l)):ixOf S (.obj p) (.str "at")=some (.int n):=by
 simp[ixOf,dicD,h,penO,keyD,Xv,kca]
theorem Zb1 (h:S p=some (penO cs n l)):ixOf S (.obj p) (.str "cells")=some (.lst (cs.map .int)):=by
 simp[ixOf,dicD,h,penO,keyD,Xv]
theorem three:3<sizeLine:=by decide +kernel
theorem ZdE (h:S p=some (penO cs n l))(x:Int):subD S (.obj p) (.str "left") (.int x)=some (sput S p (penO cs n x)):=by
 simp[subD,h,penO,keyD,Xe,kcl,kal,three]
theorem ZnN (h:S p=some (penO cs n l))(x:Int):subD S (.obj p) (.str "at") (.int x)=some (sput S p (penO cs x l)):=by
 simp[subD,h,penO,keyD,Xe,kca,kla,three]
end
theorem ZmN {S:Za}(cs:List Int):eqD S (.lst (cs.map .int)) (.lst [])=some cs.isEmpty:=by
 cases cs with
 | nil=>rfl
 | cons i r=>
   have:=UV r
   have hr:D.ress S (D.int i :: List.map D.int r)=D.int i :: List.map D.int r:=Xm _ (by rw[D.pureAll,this];rfl)
   have hn:D.ress S []=[]:=rfl
   simp[eqD,Zl,hr,hn,D.pure,D.pureAll,D.toP,D.toPs,this,PyData.depth,PyData.depthAll,PyData.eqv,PyData.eqvAll]
end Sw
namespace Sw
open PySem
def Xn:ZA:=fun ds S Q=>∃p m cs n l,ds=[.obj p,.int m]∧S p=some (penO cs n l)∧0<m∧m<2 ^ 64∧0≤n∧n<2 ^ 60∧0≤l∧
 ∀r n' l',0≤r→r<m→n≤n'→n'≤n+1→0≤l'→Q (.int r) (sput S p (penO cs n' l'))
theorem ZeN:∀ds S Q Q',(∀d S',Q d S'→Q' d S')→Xn ds S Q→Xn ds S Q':=fun ds S Q Q' m ⟨p,k,cs,n,l,h1,h2,h3,h4,h5,h6,h7,h8⟩=>
 ⟨p,k,cs,n,l,h1,h2,h3,h4,h5,h6,h7,fun r n' l' a b c d e=>m _ _ (h8 r n' l' a b c d e)⟩
theorem Zbo {m:Int}(h1:0<m)(h2:m<2 ^ 64):m.natAbs.log2<9000:=by
 have:=ZW (a:=m) (by omega) (by omega)
 omega
theorem Z8 (a:Int){m:Int}(h:0<m):0≤a % m∧a % m<m:=⟨Int.emod_nonneg a (by omega),Int.emod_lt_of_pos a h⟩
theorem Zle {cs:List Int}{i:Int}(h1:0≤i)(h2:i<cs.length):∃c,ixD (cs.map D.int) i=some (.int c):=by
 have hi:i.toNat<cs.length:=by omega
 exact⟨cs[i.toNat],by unfold ixD;rw[if_pos h1,List.getElem?_map,List.getElem?_eq_getElem hi];rfl⟩
theorem Zhx {Γ:Gam}{E:YM}{S:Za}{p:Addr}{m n:Int}{c e f:Option D}{x:Int}{R:DEnv→Za→Prop}(n1:0≤n)(n2:n<2 ^ 60)(x1:0≤x)(x2:x<4294967311)
  (hR:∀x e,0≤x→x<4294967311→R [some (.obj p),some (.int m),some (.int n),c,some (.int x),e,f] S) :
  wFor (fun _=>True) (fun d ρ S N=>wCs Γ L_draw { nx:=N,rt:=E.rt } (ρ.set 5 (some d)) S) (ZN 0 3) [some (.obj p),some (.int m),some (.int n),c,some (.int x),e,f] S R:=by
 refine ZlV (fun _ ρ S'=>S'=S∧∃x e,0≤x∧x<4294967311∧ρ=[some (.obj p),some (.int m),some (.int n),c,some (.int x),e,f]) ⟨rfl,x,e,x1,x2,rfl⟩ (fun _ _ _ _=>trivial) ?_ ?_
 · rintro i d ρ S' K hd ⟨rfl,x,e,x1,x2,rfl⟩ hK
   rw[Uf] at hd
   split at hd
   · next hi=>
     cases hd
     unfold L_draw
     simp
     refine⟨ZhG (by omega) (by omega) (by omega) (by omega),?_⟩
     refine⟨?_,hK _ _ ⟨rfl,_,_,(Z8 _ (by decide)).1,(Z8 _ (by decide)).2,rfl⟩⟩
     have:=ZW (a:=x) (by omega) (by omega)
     have h6:Nat.log2 69621<20:=by decide
     omega
   · cases hd
 · rintro ρ S' ⟨rfl,x,e,x1,x2,rfl⟩
   exact hR x e x1 x2
theorem Zii {Γ:Gam}{Q:Qd}{S:Za}{p:Addr}{m n l c:Int}{cs:List Int}{N:DEnv→Za→Prop}(hp:S p=some (penO cs (n+1) l))(m1:0<m)(m2:m<2 ^ 64)(n1:0≤n)(n2:n<2 ^ 60)(l1:0≤l)
  (q:∀r l',0≤r→r<m→0≤l'→Q (.int r) (sput S p (penO cs (n+1) l'))) :
  wCs Γ T_draw { nx:=N,rt:=Q } [some (.obj p),some (.int m),some (.int n),some (.int c),none,none,none] S:=by
 have hm:=Zbo m1 m2
 have hS:sput S p (penO cs (n+1) l)=S:=by
  funext a;unfold sput;split
  · next e=>subst e;exact hp.symm
  · rfl
 have h5:=Zbo (m:=65539) (by decide) (by decide)
 have h6:Nat.log2 65539<20:=by decide
 have h7:Nat.log2 48271<20:=by decide
 have h8:=ZW (a:=n) (by omega) (by omega)
 have tail:(Nat.log2 65539+n.natAbs.log2<1000000∧(c % 4294967311+65539 * n+17).natAbs.log2+Nat.log2 48271<1000000∧
   wFor (fun _=>True) (fun d ρ S N=>wCs Γ L_draw { nx:=N,rt:=Q } (ρ.set 5 (some d)) S) (ZN 0 3) [some (.obj p),some (.int m),some (.int n),some (.int c),some (.int ((c % 4294967311+65539 * n+17) * 48271 % 4294967311)),none,none] S
    fun ρ' S'=>wCs Γ (.cons (.ret (.bin .Mod (.bin .FloorDiv (.v 4) (.k (.int 32))) (.v 1))) .nil) { nx:=N,rt:=Q } ρ' S'):=by
  have hc:=Z8 c (m:=4294967311) (by decide)
  have h9:=ZW (a:=c % 4294967311+65539 * n+17) (by omega) (by omega)
  refine⟨by omega,by omega,Zhx (E:={ nx:=N,rt:=Q }) n1 n2 (Z8 _ (by decide)).1 (Z8 _ (by decide)).2 fun x e x1 x2=>?_⟩
  simp
  refine⟨by decide,m1,?_⟩
  have:=q (x / 32 % m) l (Z8 _ m1).1 (Z8 _ m1).2 l1
  rw[hS] at this
  exact this
 unfold T_draw
 simp[Zb1 hp,ZdE hp] at tail ⊢
 have ha:0≤(if c<0 then -c else c):=by split <;> omega
 generalize (if c<0 then -c else c)=A at ha ⊢
 split
 · refine⟨by decide,?_⟩
   split
   · exact⟨⟨m1,hm⟩,m1,q _ _ (Z8 _ m1).1 (Z8 _ m1).2 (Int.ediv_nonneg ha (by omega))⟩
   · exact tail
 · exact tail
theorem Zln {Γ:Gam}:FOk Γ 7 2 B_draw Xn:=by
 rintro ds S Q ⟨p,m,cs,n,l,rfl,hp,m1,m2,n1,n2,l1,q⟩
 refine⟨rfl,?_⟩
 have q:∀r n' l',0≤r→r<m→n≤n'→n'≤n+1→0≤l'→letGo Q (.int r) (sput S p (penO cs n' l')):=fun r n' l' a b c d e=>Yr (q r n' l' a b c d e)
 have hm:=Zbo m1 m2
 have h8:=ZW (a:=n) (by omega) (by omega)
 have hp1:sput S p (penO cs (n+1) l) p=some (penO cs (n+1) l):=Zq
 have T:∀(c:Int)(N:DEnv→Za→Prop),wCs Γ T_draw { nx:=N,rt:=letGo Q } [some (.obj p),some (.int m),some (.int n),some (.int c),none,none,none] (sput S p (penO cs (n+1) l)):=fun c N=>
  Zii hp1 m1 m2 n1 n2 l1 fun r l' r1 r2 l2=>by rw[Xo];exact q r (n+1) l' r1 r2 (by omega) (by omega) l2
 unfold B_draw
 simp[ZdA hp]
 split
 · next hl=>
   simp[m1,hm,ZdA hp,ZdE hp]
   exact q _ _ _ (Z8 l m1).1 (Z8 l m1).2 (by omega) (by omega) (Int.ediv_nonneg l1 (by omega))
 · simp[ZnL hp,ZnN hp]
   simp[Zb1 hp1,ZmN]
   refine⟨by omega,?_⟩
   split
   · exact T _ _
   · next hc=>
     have hl:0<cs.length:=List.length_pos_iff.mpr hc
     obtain⟨c,e⟩:=Zle (cs:=cs) (i:=n % cs.length) (Z8 _ (by omega)).1 (Z8 _ (by omega)).2
     refine⟨hl,?_⟩
     rw[e]
     exact T c _
end Sw
namespace Sw
open PySem
theorem ZkF {f:Int→D}(ns:List Int)(lo hi:Option Int):cutD (ns.map f) lo hi=(cutD ns lo hi).map f:=by
 unfold cutD
 rw[List.length_map,List.map_take,List.map_drop]
def Za1:ZA:=fun ds S Q=>∃ns:List Int,ds=[.scr (ns.map .int)]∧ns.length≤63∧∀p cs,S p=none→Q (.obj p) (sput S p (penO cs 0 0))
theorem Zgw:∀ds S Q Q',(∀d S',Q d S'→Q' d S')→Za1 ds S Q→Za1 ds S Q':=fun ds S Q Q' m ⟨ns,h1,h2,h3⟩=>⟨ns,h1,h2,fun p cs h=>m _ _ (h3 p cs h)⟩
theorem Znx {Γ:Gam}:FOk Γ 2 1 B_pen Za1:=by
 rintro ds S Q ⟨ns,rfl,hl,q⟩
 refine⟨rfl,?_⟩
 unfold B_pen
 simp
 rw[ZkF]
 have hz:(cutD ns none (some 63)).length≤63:=by
  unfold cutD
  rw[List.length_take,List.length_drop]
  omega
 generalize cutD ns none (some 63)=cs at hz ⊢
 refine Qj id (cs.map .int) [] (by rw[List.length_map];exact Zk (by simp;omega)) ?_ ?_
 · intro d hd acc K hl hK
   exact⟨hl,hK⟩
 · intro p hp
   rw[List.nil_append,List.map_id]
   exact Yr (q p cs hp)
end Sw
namespace Sw
open PySem
def spR (R:List D→D→Prop):ZA:=fun ds S Q=>∃d,R ds d∧Q d S
theorem Zak {R:List D→D→Prop}:∀ds S Q Q',(∀d S',Q d S'→Q' d S')→spR R ds S Q→spR R ds S Q':=fun _ _ _ _ m ⟨d,h,q⟩=>⟨d,h,m _ _ q⟩
theorem ZoL {Γ:Gam}{f:Str}{R:List D→D→Prop}(h:Γ.fn f (spR R)){as:List D}{d:D}{S:Za}{Q:Qd}(r:R as d)(q:Q d S):∃sp,Γ.fn f sp∧sp as S Q:=⟨_,h,d,r,q⟩
def PenO (o:MO)(k:Nat):Prop:=∃cs n l,o=penO cs n l∧0≤n∧n≤(k:Int)∧0≤l
theorem PenO.up {o:MO}{k k':Nat}(h:PenO o k)(hk:k≤k'):PenO o k':=by
 obtain⟨cs,n,l,h1,h2,h3,h4⟩:=h
 exact⟨cs,n,l,h1,h2,by omega,h4⟩
def spP (c:Nat)(pre:List D→Prop)(R:List D→D→Prop):ZA:=fun ds S Q=>∃p as o k,ds=.obj p :: as∧S p=some o∧PenO o k∧k+c≤2 ^ 40∧pre as∧∀d o',R as d→PenO o' (k+c)→Q d (sput S p o')
theorem ZdW {c:Nat}{pre:List D→Prop}{R:List D→D→Prop}:∀ds S Q Q',(∀d S',Q d S'→Q' d S')→spP c pre R ds S Q→spP c pre R ds S Q':=fun _ _ _ _ m ⟨p,as,o,k,h1,h2,h3,h4,h5,h6⟩=>⟨p,as,o,k,h1,h2,h3,h4,h5,fun d o' a b=>m _ _ (h6 d o' a b)⟩
theorem ZoK {Γ:Gam}{f:Str}{c:Nat}{pre:List D→Prop}{R:List D→D→Prop}(h:Γ.fn f (spP c pre R)){p:Addr}{as:List D}{o:MO}{k:Nat}{S:Za}{Q:Qd}(hp:S p=some o)(ho:PenO o k)(hk:k+c≤2 ^ 40)(pr:pre as)
  (q:∀d o',R as d→PenO o' (k+c)→Q d (sput S p o')):∃sp,Γ.fn f sp∧sp (.obj p :: as) S Q:=⟨_,h,p,as,o,k,rfl,hp,ho,hk,pr,q⟩
theorem okP {Γ:Gam}{n ps c:Nat}{body:Cs}{pre:List D→Prop}{R:List D→D→Prop}(h:∀p as o k S (Q:Qd),S p=some o→PenO o k→k+c≤2 ^ 40→pre as→(∀d o',R as d→PenO o' (k+c)→letGo Q d (sput S p o'))→(D.obj p :: as).length=ps∧wCs Γ body { nx:=fun _ S'=>letGo Q .non S',rt:=letGo Q } (XS n (.obj p :: as)) S) :
  FOk Γ n ps body (spP c pre R):=by
 rintro ds S Q ⟨p,as,o,k,rfl,h2,h3,h4,h5,h6⟩
 exact h p as o k S Q h2 h3 h4 h5 fun d o' a b=>Yr (h6 d o' a b)
theorem Yy {Γ:Gam}(h:Γ.fn "_law_draw" Xn) {p:Addr} {o:MO} {k:Nat} {m:Int} {S:Za} {Q:Qd} (hp:S p=some o) (ho:PenO o k) (hk:k+1≤2 ^ 40) (m1:0<m) (m2:m<2 ^ 64)
  (q:∀r o',0≤r→r<m→PenO o' (k+1)→Q (.int r) (sput S p o')):∃sp,Γ.fn "_law_draw" sp∧sp [.obj p,.int m] S Q:=by
 obtain⟨cs,n,l,rfl,h2,h3,h4⟩:=ho
 exact⟨_,h,p,m,cs,n,l,rfl,hp,m1,m2,h2,by omega,h4,fun r n' l' a b c d e=>q r _ a b ⟨cs,n',l',rfl,by omega,by omega,e⟩⟩
theorem glI {K:PySem.W.Frag}{mg:Str→Option Value}{h:Heap}{n:Str}{i:Int}{t:Tok}(X:K.In h)(G:h.Ns mainGlobals mg)(a:PySem.W.nsIn K mainGlobals n=some (some (.int i t))):∃v u,Vf (.int i)=some v∧mg n=some u∧L2.RelV v u:=⟨.int i,_,rfl,PySem.W.mg_of X G a,⟨_,rfl⟩⟩
theorem Zic {S:Za}{p:Addr}{o:MO}(h:S p=some o):sput S p o=S:=by
 funext a;unfold sput;split
 · next e=>subst e;exact h.symm
 · rfl
section
variable {S:Za}{q:Addr}{ds:List D}
theorem ZpA:peel (sput S q (.lst ds)) (.obj q)=some ds:=by unfold peel;dsimp only;rw[Zq]
theorem seqO:seqD (sput S q (.lst ds)) (.obj q)=some ds:=ZpA
@[simp] theorem ZsX:biD .len (sput S q (.lst ds)) [.obj q]=some (.int ds.length):=by
 rw[show biD .len=lenF from rfl]
 unfold lenF;dsimp only;rw[seqO]
@[simp] theorem Zs7:biD .tuple (sput S q (.lst ds)) [.obj q]=some (.tup ds):=by
 rw[show biD .tuple=tupF from rfl]
 unfold tupF;dsimp only;rw[seqO];rfl
@[simp] theorem Zs1:biD .list (sput S q (.lst ds)) [.obj q]=some (.lst ds):=by
 rw[show biD .list=lstF from rfl]
 unfold lstF;dsimp only;rw[seqO];rfl
@[simp] theorem ZpO:srcD .it (sput S q (.lst ds)) [.obj q]=some ds:=by
 rw[show srcD .it=itS from rfl]
 unfold itS;dsimp only;rw[seqO]
@[simp] theorem Zyl:truD (sput S q (.lst ds)) (.obj q)=some (!ds.isEmpty):=by unfold truD;dsimp only;rw[Zq]
end
theorem QG {α:Type}{step:D→Za→List D→(Za→List D→Prop)→Prop}{Q:List D→Za→Prop}{S:Za}(g f:α→D)(xs:List α)(hl:xs.length≤sizeLine)
  (hs:∀x∈xs,∀acc K,acc.length<sizeLine→K S (acc++[f x])→step (g x) S acc K) (q:Q (xs.map f) S):Ys step (xs.map g) S [] Q:=by
 have:∀(xs:List α) acc,acc.length+xs.length≤sizeLine→(∀x∈xs,∀acc K,acc.length<sizeLine→K S (acc++[f x])→step (g x) S acc K)→Q (acc++xs.map f) S→Ys step (xs.map g) S acc Q:=by
  intro xs
  induction xs with
  | nil=>intro acc _ _ q;rw[List.map_nil,List.append_nil] at q;exact q
  | cons x r ih=>
    intro acc hl hs q
    rw[List.length_cons] at hl
    refine hs x (by simp) acc _ (by omega) (ih (acc++[f x]) (by rw[List.length_append,List.length_singleton];omega) (fun d hd=>hs d (List.mem_cons_of_mem _ hd)) ?_)
    rw[List.append_assoc]
    exact q
 exact this xs [] (by simpa using hl) hs (by simpa using q)
theorem ZfC {α β:Type}{step:D→Za→List D→(Za→List D→Prop)→Prop}{Q:List D→Za→Prop}{S:Za}{p:Addr}{o:MO}{k:Nat}(g:α→D)(e:β→D)(R:α→β→Prop)(c:Nat)(xs:List α)(hl:xs.length≤sizeLine)(hp:S p=some o)(ho:PenO o k)
  (hs:∀i x (bs:List β) o K,xs[i]?=some x→bs.length=i→i<xs.length→PenO o (k+c * i)→bs.length<sizeLine→(∀b o',R x b→PenO o' (k+c * (i+1))→K (sput S p o') (bs.map e++[e b]))→step (g x) (sput S p o) (bs.map e) K)
  (q:∀(bs:List β) o,bs.length=xs.length→(∀(i:Nat) x b,xs[i]?=some x→bs[i]?=some b→R x b)→PenO o (k+c * xs.length)→Q (bs.map e) (sput S p o)):Ys step (xs.map g) S [] Q:=by
 refine ZjM (fun i S' acc=>∃(bs:List β) (o':MO),bs.length=i∧S'=sput S p o'∧PenO o' (k+c * i)∧acc=bs.map e∧∀(j:Nat) x b,xs[j]?=some x→bs[j]?=some b→R x b) ⟨[],o,rfl,(Zic hp).symm,by simpa using ho,rfl,fun j x b _ h=>by simp at h⟩ ?_ ?_
 · rintro i d S' acc K hd ⟨bs,o',hb,rfl,ho',rfl,hR⟩ hK
   rw[List.getElem?_map] at hd
   cases hx:xs[i]? with
   | none=>rw[hx] at hd;cases hd
   | some x=>
     rw[hx] at hd
     cases hd
     have hi:i<xs.length:=(List.getElem?_eq_some_iff.mp hx).1
     refine hs i x bs o' K hx hb hi ho' (by omega) fun b o2 rb ho2=>hK _ _ ⟨bs++[b],o2,by simp[hb],rfl,ho2,by simp,?_⟩
     intro j y b' hy hb'
     rw[List.getElem?_append] at hb'
     split at hb'
     · exact hR j y b' hy hb'
     · next hj=>
       have:j=i:=by
        have:=(List.getElem?_eq_some_iff.mp hb').1
        simp at this
        omega
       subst this
       rw[hx] at hy;cases hy
       have:j - bs.length=0:=by omega
       rw[this] at hb'
       cases hb'
       exact rb
 · rintro S' acc ⟨bs,o',hb,rfl,ho',rfl,hR⟩
   rw[List.length_map] at hb ho'
   exact q bs o' hb hR ho'
theorem XY {α:Type}{gd:Za→Prop}{turn:D→DEnv→Za→(DEnv→Za→Prop)→Prop}{Q:DEnv→Za→Prop}{ρ:DEnv}(g:α→D)(f:α→List D)(m:Nat)(Sq:List D→Za)(Env:DEnv→Prop)(xs:List α)(acc0:List D)(h0:Env ρ)
  (hg:∀acc,gd (Sq acc)) (hm:∀x∈xs,(f x).length≤m)
  (hs:∀x∈xs,∀acc ρ K,acc.length+(f x).length≤acc0.length+m * xs.length→Env ρ→(∀ρ',Env ρ'→K ρ' (Sq (acc++f x)))→turn (g x) ρ (Sq acc) K)
  (q:∀ρ,Env ρ→Q ρ (Sq (acc0++xs.flatMap f))):wFor gd turn (xs.map g) ρ (Sq acc0) Q:=by
 have:∀(ys:List α) (acc:List D) ρ,Env ρ→(∀x∈ys,x∈xs)→acc.length+m * ys.length≤acc0.length+m * xs.length→(∀ρ,Env ρ→Q ρ (Sq (acc++ys.flatMap f)))→wFor gd turn (ys.map g) ρ (Sq acc) Q:=by
  intro ys
  induction ys with
  | nil=>intro acc ρ h0 _ _ q;exact⟨hg acc,by simpa using q ρ h0⟩
  | cons y r ih=>
    intro acc ρ h0 hx hl q
    have hy:=hx y (by simp)
    have:=hm y hy
    rw[List.length_cons,Nat.mul_succ] at hl
    refine⟨hg acc,hs y hy acc ρ _ (by omega) h0 fun ρ' h'=>ih (acc++f y) ρ' h' (fun x hx'=>hx x (List.mem_cons_of_mem _ hx')) (by rw[List.length_append];omega) fun ρ'' h''=>?_⟩
    have:=q ρ'' h''
    rw[List.flatMap_cons,← List.append_assoc] at this
    exact this
 exact this xs acc0 ρ h0 (fun _ h=>h) (Nat.le_refl _) q
end Sw
namespace Sw
open PySem
theorem Wy:∀ {ds:List D},D.pureAll ds=true↔∀d∈ds,d.pure=true
 | []=>by simp[D.pureAll]
 | d :: r=>by rw[D.pureAll,Bool.and_eq_true,Wy (ds:=r)];simp
theorem XE {n:Nat}:∀ {ds:List D},(∀d∈ds,d.toP.depth≤n)→PyData.depthAll (D.toPs ds)≤n
 | [],_=>by simp[D.toPs,PyData.depthAll]
 | d :: r,h=>by
   rw[D.toPs,PyData.depthAll]
   have:=h d (by simp)
   have:=XE (ds:=r) fun x hx=>h x (List.mem_cons_of_mem _ hx)
   omega
mutual
def D.nb:D→Bool
 | .non=>true
 | .int _=>true
 | .str _=>true
 | .tup ds=>D.nbs ds
 | .lst ds=>D.nbs ds
 | _=>false
def D.nbs:List D→Bool
 | []=>true
 | d :: r=>D.nb d && D.nbs r
end
theorem Vz:∀ {ds:List D},D.nbs ds=true↔∀d∈ds,d.nb=true
 | []=>by simp[D.nbs]
 | d :: r=>by rw[D.nbs,Bool.and_eq_true,Vz (ds:=r)];simp
mutual
theorem WV:∀ {d:D},d.nb=true→d.pure=true
 | .non,_=>rfl
 | .int _,_=>rfl
 | .str _,_=>rfl
 | .tup ds,h=>by rw[D.nb] at h;rw[D.pure];exact Zah h
 | .lst ds,h=>by rw[D.nb] at h;rw[D.pure];exact Zah h
 | .bl _,h=>by rw[D.nb] at h <;> first | cases h | simp
 | .dic _ _,h=>by rw[D.nb] at h <;> first | cases h | simp
 | .scr _,h=>by rw[D.nb] at h <;> first | cases h | simp
 | .obj _,h=>by rw[D.nb] at h <;> first | cases h | simp
theorem Zah:∀ {ds:List D},D.nbs ds=true→D.pureAll ds=true
 | [],_=>rfl
 | d :: r,h=>by
   rw[D.nbs,Bool.and_eq_true] at h
   rw[D.pureAll,WV h.1,Zah h.2];rfl
end
mutual
theorem Zc9:∀ {x y:D},x.nb=true→y.nb=true→(PyData.eqv x.toP y.toP=true↔x=y)
 | .non,y,_,hy=>by cases y <;> simp_all [D.nb,D.toP,PyData.eqv]
 | .int i,y,_,hy=>by cases y <;> simp_all [D.nb,D.toP,PyData.eqv]
 | .str i,y,_,hy=>by cases y <;> simp_all [D.nb,D.toP,PyData.eqv]
 | .tup ds,y,hx,hy=>by
   rw[D.nb] at hx
   cases y with
   | tup es=>rw[D.nb] at hy;rw[D.toP,D.toP,PyData.eqv,Zbi hx hy];simp
   | _=>simp_all [D.nb,D.toP,PyData.eqv]
 | .lst ds,y,hx,hy=>by
   rw[D.nb] at hx
   cases y with
   | lst es=>rw[D.nb] at hy;rw[D.toP,D.toP,PyData.eqv,Zbi hx hy];simp
   | _=>simp_all [D.nb,D.toP,PyData.eqv]
 | .bl _,_,h,_=>by rw[D.nb] at h <;> first | cases h | simp
 | .dic _ _,_,h,_=>by rw[D.nb] at h <;> first | cases h | simp
 | .scr _,_,h,_=>by rw[D.nb] at h <;> first | cases h | simp
 | .obj _,_,h,_=>by rw[D.nb] at h <;> first | cases h | simp
theorem Zbi:∀ {xs ys:List D},D.nbs xs=true→D.nbs ys=true→(PyData.eqvAll (D.toPs xs) (D.toPs ys)=true↔xs=ys)
 | [],[],_,_=>by simp[D.toPs,PyData.eqvAll]
 | [],_ :: _,_,_=>by simp[D.toPs,PyData.eqvAll]
 | _ :: _,[],_,_=>by simp[D.toPs,PyData.eqvAll]
 | x :: xs,y :: ys,hx,hy=>by
   rw[D.nbs,Bool.and_eq_true] at hx hy
   rw[D.toPs,D.toPs,PyData.eqvAll,Bool.and_eq_true,Zc9 hx.1 hy.1,Zbi hx.2 hy.2]
   simp
end
open Classical in
theorem ZfU {S:Za}{x y:D}(hx:x.nb=true)(hy:y.nb=true)(hd:x.toP.depth≤64∨y.toP.depth≤64):eqD S x y=some (decide (x=y)):=by
 have px:=WV hx
 have py:=WV hy
 have ex:Zl S x=some x.toP:=by
  exact We px
 have ey:Zl S y=some y.toP:=by
  exact We py
 unfold eqD
 rw[ex,ey]
 dsimp only
 rw[if_pos (ZeL hd)]
 congr 1
 rw[Bool.eq_iff_iff,Zc9 hx hy,decide_eq_true_eq]
theorem ZfV {S:Za}{x:D}(hx:x.nb=true)(hd:x.toP.depth≤64):eqD S x x=some true:=by
 rw[ZfU hx hx (.inl hd)];simp
open Classical in
theorem ZcA {S:Za}{x:D}{ys:List D}{y:D}(hy:seqD S y=some ys)(hn:dicD S y=none)(hs:∀z,y≠.str z)(hx:x.nb=true)(hys:∀y∈ys,y.nb=true)(hd:x.toP.depth≤64):inD S x y=some (decide (x∈ys)):=by
 have px:=WV hx
 have ex:Zl S x=some x.toP:=by
  exact We px
 have e:inD S x y=if D.pureAll ys=true∧min (PyData.depthAll (D.toPs ys)) x.toP.depth≤64 then some ((D.toPs ys).any fun z=>PyData.eqv z x.toP) else none:=by
  unfold inD
  split
  · next j=>exact absurd rfl (hs j)
  · rw[hn,hy,ex]
 rw[e,if_pos ⟨Wy.mpr fun d h=>WV (hys d h),by omega⟩]
 congr 1
 clear e hy
 induction ys with
 | nil=>simp[D.toPs]
 | cons d r ih=>
   have h1:=ih fun y h=>hys y (List.mem_cons_of_mem _ h)
   rw[D.toPs,List.any_cons,h1]
   have h2:=Zc9 (hys d (by simp)) hx
   by_cases h:d=x
   · subst h;simp[h2.mpr rfl]
   · have:PyData.eqv d.toP x.toP=false:=by rw[Bool.eq_false_iff];exact fun z=>h (h2.mp z)
     have h':¬x=d:=fun z=>h z.symm
     rw[this];simp[h']
theorem Zbj {S:Za}{x:Str}{ys:List Str}:inD S (.str x) (.tup (ys.map .str))=some (decide (x∈ys)):=by
 rw[ZcA (ys:=ys.map .str) rfl rfl (fun _ h=>by cases h) rfl (by simp[D.nb]) (by simp[D.toP,PyData.depth])]
 congr 1
 rw[decide_eq_decide]
 simp
theorem Ze7 {S:Za}{x:Str}{ys:List Str}:inD S (.str x) (.lst (ys.map .str))=some (decide (x∈ys)):=by
 rw[ZcA (ys:=ys.map .str) rfl rfl (fun _ h=>by cases h) rfl (by simp[D.nb]) (by simp[D.toP,PyData.depth])]
 congr 1
 rw[decide_eq_decide]
 simp
theorem Zk3 {S:Za}{x y:Str}:eqD S (.str x) (.str y)=some (decide (x=y)):=by
 by_cases h:x=y <;> simp[eqD,Zl,D.pure,D.toP,PyData.depth,PyData.eqv,h]
def Nice (d:D)(w h:Nat):Prop:=d.pure=true∧d.toP.showable=true∧d.toP.hasDict=false∧d.toP.leavesShort 400=true∧d.toP.weight≤w∧d.toP.depth≤h
theorem Zjg {i:Int}(h:i.natAbs.log2<398):Nice (.int i) 400 0:=by
 refine⟨rfl,?_,rfl,?_,?_,Nat.le_refl _⟩
 · simp only[D.toP,PyData.showable,decide_eq_true_eq];omega
 · simp only[D.toP,PyData.leavesShort,decide_eq_true_eq]
   have e:(PyData.shown (.int i)).length=(toString i).length:=by
    show(Str.ofString (toString i)).length=_
    rw[ofString_length]
   rw[e]
   have:=PySem.int_text_length_le (a:=i) (k:=398) (by decide) h
   omega
 · simp only[D.toP,PyData.weight];split <;> omega
end Sw
namespace Sw
open PySem
def E1_places_together:M:=
    .comp .it (.cons (.v 0) .nil) [2] (.nm 2) .nil (.ix (.v 2) (.k (.int 1)))
def Ym:Cs:=
    (.cons (.ret (.bin .Sub (.bi .sum (.cons E1_places_together .nil)) (.bin .Mult (.v 1) (.bin .Sub (.bi .len (.cons (.v 0) .nil)) (.k (.int 1))))))
    .nil)
def E1_stands_of:M:=
    .comp .it (.cons (.v 7) .nil) [8] (.nm 8) .nil (.ix (.v 8) (.k (.int 0)))
def L1_stands_of:Cs:=
    (.cons (.asg (.nm 7) (.sl true true (.v 5) (.cons (.v 6) (.cons (.bin .Add (.v 6) (.v 2)) .nil))))
    (.cons (.ifs (.cmp .Gt (.call "places_together" (.cons (.v 7) (.cons (.v 4) .nil))) (.k (.int 0))) (.cons (.mut .append (.v 1) (.cons (.bi .tuple (.cons E1_stands_of .nil)) .nil))
    .nil) .nil)
    .nil))
def L2_stands_of:Cs:=
    (.cons (.for .rng1 (.cons (.bin .Add (.bin .Sub (.bi .len (.cons (.v 5) .nil)) (.v 2)) (.k (.int 1))) .nil) (.nm 6) L1_stands_of)
    .nil)
def L3_stands_of:Cs:=
    (.cons (.for .it (.cons (.v 3) .nil) (.nm 5) L2_stands_of)
    .nil)
def XD:Cs:=
    (.cons (.asg (.tp (.nm 3) (.tp (.nm 4) .nil)) (.v 0))
    (.cons (.asg (.nm 1) (.own (.lst .nil)))
    (.cons (.for .rng2 (.cons (.k (.int 1)) (.cons (.bin .Add (.g "MOST_PUSHED") (.k (.int 1))) .nil)) (.nm 2) L3_stands_of)
    (.cons (.ret (.frz (.v 1)))
    .nil))))
def L1_law_names:Cs:=
    (.cons (.asg (.nm 10) (.sl false true (.sl true false (.v 3) (.cons (.bin .Add (.v 4) (.k (.int 1))) .nil)) (.cons (.ix (.lst (.cons (.k (.int 8)) (.cons (.bin .Mod (.v 9) (.k (.int 4))) .nil))) (.bin .Mod (.v 7) (.k (.int 2)))) .nil)))
    (.cons (.mut .append (.v 8) (.cons (.bin .Add (.bin .Add (.sl false true (.v 3) (.cons (.v 4) .nil)) (.ix (.v 2) (.bin .Mod (.bin .Add (.v 5) (.bin .Mult (.v 6) (.v 9))) (.k (.int 26))))) (.v 10)) .nil))
    .nil))
def E1_law_names:M:=
    .comp .rng1 (.cons (.bin .Add (.k (.int 1)) (.call "_law_draw" (.cons (.v 0) (.cons (.k (.int 8)) .nil)))) .nil) [9] (.nm 9) .nil (.ix (.v 2) (.call "_law_draw" (.cons (.v 0) (.cons (.k (.int 26)) .nil))))
def XB:Cs:=
    (.cons (.asg (.nm 2) (.k (.str "abcdefghijklmnopqrstuvwxyz")))
    (.cons (.asg (.nm 3) (.meth .join (.k (.str "")) (.cons E1_law_names .nil)))
    (.cons (.asg (.nm 4) (.call "_law_draw" (.cons (.v 0) (.cons (.bi .len (.cons (.v 3) .nil)) .nil))))
    (.cons (.asg (.nm 5) (.call "_law_draw" (.cons (.v 0) (.cons (.k (.int 26)) .nil))))
    (.cons (.asg (.nm 6) (.ix (.lst (.cons (.k (.int 3)) (.cons (.k (.int 5)) (.cons (.k (.int 7)) (.cons (.k (.int 9)) (.cons (.k (.int 11)) (.cons (.k (.int 15)) .nil))))))) (.call "_law_draw" (.cons (.v 0) (.cons (.k (.int 6)) .nil)))))
    (.cons (.asg (.nm 7) (.meth .sindex (.v 2) (.cons (.ix (.v 3) (.v 4)) .nil)))
    (.cons (.asg (.nm 8) (.own (.lst .nil)))
    (.cons (.for .rng1 (.cons (.v 1) .nil) (.nm 9) L1_law_names)
    (.cons (.ifs (.and (.cmp .Gt (.v 4) (.k (.int 0))) (.and (.cmp .Gt (.v 1) (.k (.int 0))) (.cmp .Eq (.bin .Mod (.bin .FloorDiv (.v 7) (.k (.int 2))) (.k (.int 3))) (.k (.int 1))))) (.cons (.sub (.v 8) (.bin .Mod (.bin .FloorDiv (.v 7) (.k (.int 6))) (.v 1)) (.sl false true (.v 3) (.cons (.v 4) .nil)))
    .nil) .nil)
    (.cons (.ret (.frz (.v 8)))
    .nil))))))))))
def E1_law_room:M:=
    .comp .rng2 (.cons (.v 6) (.cons (.bin .Add (.v 6) (.v 7)) .nil)) [8] (.nm 8) .nil (.tup (.cons (.ix (.v 3) (.v 8)) (.cons (.bin .Add (.k (.int 1)) (.call "_law_draw" (.cons (.v 0) (.cons (.v 4) .nil)))) .nil)))
def L1_law_room:Cs:=
    (.cons (.asg (.nm 7) (.ix (.lst (.cons (.bi .min2 (.cons (.bin .Sub (.v 2) (.v 6)) (.cons (.bin .Add (.k (.int 1)) (.call "_law_draw" (.cons (.v 0) (.cons (.k (.int 6)) .nil)))) .nil))) (.cons (.bin .Sub (.v 2) (.v 6)) .nil))) (.bi .int (.cons (.cmp .Eq (.bi .len (.cons (.v 5) .nil)) (.k (.int 3))) .nil))))
    (.cons (.mut .append (.v 5) (.cons (.bi .tuple (.cons E1_law_room .nil)) .nil))
    (.cons (.asg (.nm 6) (.bin .Add (.v 6) (.v 7)))
    .nil)))
def X5:Cs:=
    (.cons (.asg (.nm 2) (.bin .Add (.k (.int 1)) (.call "_law_draw" (.cons (.v 0) (.cons (.v 1) .nil)))))
    (.cons (.asg (.nm 3) (.call "_law_names" (.cons (.v 0) (.cons (.v 2) .nil))))
    (.cons (.asg (.nm 4) (.ix (.lst (.cons (.k (.int 20)) (.cons (.k (.int 6)) (.cons (.k (.int 3)) .nil)))) (.call "_law_draw" (.cons (.v 0) (.cons (.k (.int 3)) .nil)))))
    (.cons (.asg (.nm 5) (.own (.lst .nil)))
    (.cons (.asg (.nm 6) (.k (.int 0)))
    (.cons (.while (.cmp .Lt (.v 6) (.v 2)) L1_law_room)
    (.cons (.ret (.tup (.cons (.bi .tuple (.cons (.v 5) .nil)) (.cons (.bin .Mult (.call "_law_draw" (.cons (.v 0) (.cons (.k (.int 5)) .nil))) (.call "_law_draw" (.cons (.v 0) (.cons (.k (.int 2)) .nil)))) .nil))))
    .nil)))))))
def E1_law_stands:M:=
    .comp .it (.cons (.v 5) .nil) [7] (.nm 7) .nil (.ix (.v 7) (.k (.int 0)))
def E2_law_stands:M:=
    .comp .it (.cons (.v 5) .nil) [7] (.nm 7) .nil (.ix (.v 7) (.k (.int 1)))
def L1_law_stands:Cs:=
    (.cons (.asg (.nm 5) (.sl true true (.v 3) (.cons (.v 4) (.cons (.bin .Add (.v 4) (.v 2)) .nil))))
    (.cons (.asg (.nm 6) (.bin .Sub (.bi .sum (.cons E2_law_stands .nil)) (.bin .Mult (.ix (.v 0) (.k (.int 1))) (.bin .Sub (.v 2) (.k (.int 1))))))
    (.cons (.ifs (.and (.cmp .Eq (.bi .len (.cons (.v 5) .nil)) (.v 2)) (.cmp .Gt (.v 6) (.k (.int 0)))) (.cons (.mut .append (.v 1) (.cons (.bi .tuple (.cons E1_law_stands .nil)) .nil))
    .nil) .nil)
    .nil)))
def L2_law_stands:Cs:=
    (.cons (.for .rng1 (.cons (.bi .len (.cons (.v 3) .nil)) .nil) (.nm 4) L1_law_stands)
    .nil)
def L3_law_stands:Cs:=
    (.cons (.for .it (.cons (.ix (.v 0) (.k (.int 0))) .nil) (.nm 3) L2_law_stands)
    .nil)
def Xh:Cs:=
    (.cons (.asg (.nm 1) (.own (.lst .nil)))
    (.cons (.for .rng2 (.cons (.k (.int 1)) (.cons (.k (.int 4)) .nil)) (.nm 2) L3_law_stands)
    (.cons (.ret (.frz (.v 1)))
    .nil)))
abbrev Tab:=Str×Int
structure Room where
 rows:List (List Tab)
 lost:Int
def tabD (t:Tab):D:=.tup [.str t.1,.int t.2]
def ZF (l:List Tab):D:=.tup (l.map tabD)
def Zj (r:Room):D:=.tup [.tup (r.rows.map ZF),.int r.lost]
def Zd (st:List Str):D:=.tup (st.map .str)
def namesOf (rows:List (List Tab)):List Str:=rows.flatMap fun l=>l.map (·.1)
def V6 (c:Nat):Prop:=97≤c∧c≤122
def Wd (y:Str):Prop:=1≤y.length∧y.length≤8∧∀c∈y.cps.toList,V6 c
structure Zv (r:Room):Prop where
 many:1≤r.rows.length
 few:r.rows.length≤4
 row1:∀l∈r.rows,1≤l.length
 row6:∀l∈r.rows,l.length≤6
 tabs:(namesOf r.rows).length≤8
 nodup:(namesOf r.rows).Nodup
 names:∀y∈namesOf r.rows,Wd y
 place:∀l∈r.rows,∀t∈l,1≤t.2∧t.2≤20
 lost0:0≤r.lost
 lost4:r.lost≤4
def together (ts:List Tab)(lost:Int):Int:=(ts.map (·.2)).sum - lost * ((ts.length:Int) - 1)
def runOf (l:List Tab)(i m:Nat):List Tab:=(l.drop i).take m
def standAt (lost:Int)(l:List Tab)(m i:Nat):List (List Str):=if 0<together (runOf l i m) lost then [(runOf l i m).map (·.1)] else []
def ZD (r:Room):List (List Str):=[1,2,3].flatMap fun m=>r.rows.flatMap fun l=>(List.range (l.length+1 - m)).flatMap fun i=>standAt r.lost l m i
def Vr (r:Room)(st:List Str):List Tab:=r.rows.flatMap fun l=>l.filter fun t=>decide (t.1∈st)
def placesOf (r:Room)(st:List Str):Int:=together (Vr r st) r.lost
def Zbr (r:Room)(st:List Str):Int:=((Vr r st).map (·.2)).sum - r.lost * ((st.length:Int) - 1)
end Sw
namespace Sw
open PySem
abbrev abcS:Str:= "abcdefghijklmnopqrstuvwxyz"
theorem ZfM:abcS.cps.toList=(List.range 26).map (97 + ·):=by decide +kernel
theorem Zkp:abcS.length≤sizeLine:=by decide +kernel
theorem Zfa {S:Za}{i:Int}(h1:0≤i)(h2:i<26):ixOf S (.str abcS) (.int i)=some (.str ⟨#[97+i.toNat]⟩):=by
 have e:ixOf S (.str abcS) (.int i)=if abcS.length≤sizeLine then(ixD abcS.cps.toList i).map fun c=>.str ⟨#[c]⟩ else none:=rfl
 rw[e,if_pos Zkp,ZfM]
 unfold ixD
 rw[if_pos h1,List.getElem?_map,List.getElem?_range (by omega)]
 rfl
theorem Zm9 {S:Za}{i:Int}(h1:0≤i)(h2:i<26):∃c,V6 c∧ixOf S (.str abcS) (.int i)=some (.str ⟨#[c]⟩):=
 ⟨97+i.toNat,⟨by omega,by omega⟩,Zfa h1 h2⟩
theorem range_map (a b:Int):ZN a b=(List.range (b - a).toNat).map fun i=>.int (a+((i:Nat):Int)):=rfl
theorem ZfS {Γ:Gam}(hd:Γ.fn "_law_draw" Xn) {p:Addr} {o:MO} {k:Nat} {r1 r3 r4 r5 r6 r7 r8 r9 r10:Option D} {S:Za} {Q:Qd} (hp:S p=some o) (ho:PenO o k) (hk:k+9≤2 ^ 40)
  (q:∀(w:List Nat) o',1≤w.length→w.length≤8→(∀c∈w,V6 c)→PenO o' (k+9)→Q (.lst (w.map fun c=>.str ⟨#[c]⟩)) (sput S p o')) :
  Sw.wE Γ E1_law_names [some (.obj p),r1,some (.str abcS),r3,r4,r5,r6,r7,r8,r9,r10] S Q:=by
 unfold E1_law_names
 simp
 refine Yy hd hp ho (by omega) (by omega) (by omega) fun r o1 h1 h2 ho1=>?_
 simp
 refine⟨ZN 0 (1+r),⟨by omega,rfl⟩,?_⟩
 rw[range_map]
 refine ZfC (β:=Nat) (fun i:Nat=>D.int (0+(i:Int))) (fun c=>.str ⟨#[c]⟩) (fun _ c=>V6 c) 1 _ (by rw[List.length_range];exact Zk (by omega)) Zq ho1 ?_ ?_
 · intro i x bs o2 K hx hb hi ho2 hs hK
   rw[List.length_range] at hi
   rw[Xo]
   refine⟨⟨by omega,rfl⟩,Yy hd Zq ho2 (by omega) (by omega) (by omega) fun y o3 y1 y2 ho3=>?_⟩
   obtain⟨c,cl,e⟩:=Zm9 (S:=sput (sput S p o2) p o3) y1 y2
   rw[e,Xl,Xo]
   refine⟨by rw[List.length_map];exact hs,?_⟩
   have:=hK c o3 cl (ho3.up (by omega))
   rw[Xo] at this
   exact this
 · intro bs o2 hb hR ho2
   rw[List.length_range] at hb ho2
   rw[Xo]
   refine⟨⟨by omega,rfl⟩,q bs o2 (by omega) (by omega) ?_ (ho2.up (by omega))⟩
   intro c hc
   obtain⟨i,hi,e⟩:=List.getElem_of_mem hc
   exact hR i i c (by rw[List.getElem?_range (by omega)]) (by rw[List.getElem?_eq_getElem hi,e])
theorem Zll:∀i:Fin 26,Builtin.Str.occurrences abcS ⟨#[97+i.val]⟩ 0 abcS.length 1=[i.val]:=by decide +kernel
theorem Zhc {c:Nat}(h:V6 c):WW (.str abcS) [.str ⟨#[c]⟩]=some (.int ((c - 97:Nat):Int)):=by
 have e:=Zll ⟨c - 97,by have:=h.1;have:=h.2;omega⟩
 have hc:97+(c - 97)=c:=by have:=h.1;omega
 dsimp only at e
 rw[hc] at e
 unfold WW
 dsimp only
 rw[e]
theorem QP:∀w:List Nat,TL.joinL [] (w.map fun c=>[c])=w
 | []=>rfl
 | [_]=>rfl
 | c :: d :: r=>by
   show [c]++([]++TL.joinL [] ((d :: r).map fun c=>[c]))=c :: d :: r
   rw[QP (d :: r)]
   rfl
theorem Zf1 (w:List Nat):Txt.join (Str.ofString "") (w.map fun c=>(⟨#[c]⟩:Str))=⟨w.toArray⟩:=by
 rw[TL.join_eq]
 apply TL.ext_tl
 rw[TL.tl_join,List.map_map]
 show TL.joinL [] (w.map fun c=>[c])=_
 rw[QP]
theorem strs_map:∀ys:List Str,Yi (ys.map .str)=some ys
 | []=>rfl
 | y :: r=>by rw[List.map_cons,Yi,strs_map r];rfl
theorem ZjH (w:List Nat):((w.map fun c=>(⟨#[c]⟩:Str)).map (·.length)).sum=w.length:=by
 induction w with
 | nil=>rfl
 | cons c r ih=>rw[List.map_cons,List.map_cons,List.sum_cons,ih,List.length_cons];show 1+r.length=_;omega
theorem Znd {S:Za}{w:List Nat}(h:w.length≤1000):joinM S (.str (Str.ofString "")) [.lst (w.map fun c=>.str ⟨#[c]⟩)]=some (.str ⟨w.toArray⟩):=by
 have e:(w.map fun c=>D.str ⟨#[c]⟩)=(w.map fun c=>(⟨#[c]⟩:Str)).map D.str:=by rw[List.map_map];rfl
 unfold joinM
 dsimp only[seqD,peel]
 rw[e,strs_map]
 dsimp only
 rw[if_pos,Zf1]
 rw[ZjH]
 have:(Str.ofString "").length=0:=by decide +kernel
 rw[this]
 omega
theorem Zfx (a b:List Nat):((⟨a.toArray⟩:Str)++(⟨b.toArray⟩:Str))=⟨(a++b).toArray⟩:=by
 apply TL.ext_tl
 rw[TL.tl_append]
theorem str_len (a:List Nat):(⟨a.toArray⟩:Str).length=a.length:=by simp[Str.length]
theorem sl_str {S:Za}{a:List Nat}{lo hi:Option Int}(h:a.length≤1000000):slOf S (.str ⟨a.toArray⟩) lo hi=some (.str ⟨(cutD a lo hi).toArray⟩):=by
 have e:slOf S (.str ⟨a.toArray⟩) lo hi=if(⟨a.toArray⟩:Str).length≤sizeLine then some (.str ⟨(cutD a lo hi).toArray⟩) else none:=rfl
 rw[e,str_len,if_pos (Zk h)]
theorem ix_str {S:Za}{a:List Nat}{i:Int}(h:a.length≤1000000)(h1:0≤i)(h2:i<a.length):∃c,a[i.toNat]?=some c∧ixOf S (.str ⟨a.toArray⟩) (.int i)=some (.str ⟨#[c]⟩):=by
 have hi:i.toNat<a.length:=by omega
 refine⟨a[i.toNat],List.getElem?_eq_getElem hi,?_⟩
 have e:ixOf S (.str ⟨a.toArray⟩) (.int i)=if(⟨a.toArray⟩:Str).length≤sizeLine then(ixD a i).map fun c=>.str ⟨#[c]⟩ else none:=rfl
 rw[e,str_len,if_pos (Zk h)]
 unfold ixD
 rw[if_pos h1,List.getElem?_eq_getElem hi]
 rfl
theorem far {f i j:Int}{b:Int}(hb:b=3∨b=5∨b=7∨b=9∨b=11∨b=15)(i1:0≤i)(i2:i<26)(j1:0≤j)(j2:j<26)(h:(f+b * i) % 26=(f+b * j) % 26):i=j:=by
 rcases hb with rfl | rfl | rfl | rfl | rfl | rfl <;> omega
theorem UH {α:Type}(xs:List α){i:Int}(h1:0≤i):cutD xs none (some i)=xs.take i.toNat:=by
 unfold cutD
 have e1:HT.sIx xs.length 0 none=0:=rfl
 rw[e1,List.drop_zero,Nat.sub_zero]
 have e2:HT.sIx xs.length xs.length (some i)=if i<0 then(i+(xs.length:Int)).toNat else min i.toNat xs.length:=rfl
 rw[e2,if_neg (by omega)]
 rcases Nat.le_total i.toNat xs.length with h | h
 · rw[Nat.min_eq_left h]
 · rw[Nat.min_eq_right h,List.take_length,List.take_of_length_le h]
theorem X8 {α:Type}(xs:List α){i:Int}(h1:0≤i):cutD xs (some i) none=xs.drop i.toNat:=by
 unfold cutD
 have e2:HT.sIx xs.length 0 (some i)=if i<0 then(i+(xs.length:Int)).toNat else min i.toNat xs.length:=rfl
 have e1:HT.sIx xs.length xs.length none=xs.length:=rfl
 rw[e1,e2,if_neg (by omega)]
 rcases Nat.le_total i.toNat xs.length with h | h
 · rw[Nat.min_eq_left h]
   exact List.take_of_length_le (by rw[List.length_drop];exact Nat.le_refl _)
 · rw[Nat.min_eq_right h,List.drop_length,List.drop_of_length_le h,List.take_nil]
theorem Q5 {α:Type}(xs:List α){i j:Int}(h1:0≤i)(h2:0≤j):cutD xs (some i) (some j)=(xs.drop i.toNat).take (j.toNat - i.toNat):=by
 unfold cutD
 have e2:HT.sIx xs.length 0 (some i)=if i<0 then(i+(xs.length:Int)).toNat else min i.toNat xs.length:=rfl
 have e3:HT.sIx xs.length xs.length (some j)=if j<0 then(j+(xs.length:Int)).toNat else min j.toNat xs.length:=rfl
 rw[e2,e3,if_neg (by omega),if_neg (by omega)]
 rcases Nat.le_total i.toNat xs.length with h | h
 · rw[Nat.min_eq_left h]
   rcases Nat.le_total j.toNat xs.length with h' | h'
   · rw[Nat.min_eq_left h']
   · rw[Nat.min_eq_right h',List.take_of_length_le (by rw[List.length_drop];omega),List.take_of_length_le (by rw[List.length_drop];omega)]
 · rw[Nat.min_eq_right h,List.drop_length,List.drop_of_length_le h];simp
inductive ZgI:List D→D→Prop
 | mk (m:Int) (ys:List Str) (h1:(ys.length:Int)=m) (h2:ys.Nodup) (h3:∀y∈ys,Wd y):ZgI [.int m] (.lst (ys.map .str))
def VD:ZA:=spP 20 (fun as=>∃m:Int,as=[.int m]∧0≤m∧m≤26) ZgI
theorem len_str {S:Za}{a:List Nat}(h:a.length≤1000000):biD .len S [.str ⟨a.toArray⟩]=some (.int (a.length:Int)):=by
 have e:biD .len S [.str ⟨a.toArray⟩]=if(⟨a.toArray⟩:Str).length≤sizeLine then some (.int ((⟨a.toArray⟩:Str).length:Int)) else none:=rfl
 rw[e,str_len,if_pos (Zk h)]
def nameAt (w:List Nat)(a:Nat)(f b lot:Int)(i:Nat):List Nat:=w.take a++[97+((f+b * (i:Int)) % 26).toNat]++(w.drop (a+1)).take (if lot % 2=0 then 8 else i % 4)
theorem Zlk {w:List Nat}{a:Nat}{f b lot:Int}{i:Nat}(hw:w.length≤8)(ha:a<w.length)(wc:∀c∈w,V6 c):Wd ⟨(nameAt w a f b lot i).toArray⟩:=by
 have hl:(nameAt w a f b lot i).length≤8:=by
  unfold nameAt
  simp only[List.length_append,List.length_take,List.length_drop,List.length_singleton]
  omega
 have hl2:1≤(nameAt w a f b lot i).length:=by
  unfold nameAt
  simp only[List.length_append,List.length_singleton]
  omega
 refine⟨by rw[str_len];exact hl2,by rw[str_len];exact hl,?_⟩
 intro c hc
 have hc:c∈nameAt w a f b lot i:=by simpa using hc
 unfold nameAt at hc
 simp only[List.mem_append,List.mem_singleton] at hc
 rcases hc with (hc | hc) | hc
 · exact wc c (List.mem_of_mem_take hc)
 · have:=Z8 (f+b * (i:Int)) (m:=26) (by decide)
   subst hc
   exact⟨by omega,by omega⟩
 · exact wc c (List.mem_of_mem_drop (List.mem_of_mem_take hc))
theorem V8 {w:List Nat}{a:Nat}{f b lot:Int}{i:Nat}(ha:a<w.length):(nameAt w a f b lot i)[a]?=some (97+((f+b * (i:Int)) % 26).toNat):=by
 unfold nameAt
 have:(w.take a).length=a:=by rw[List.length_take];omega
 rw[List.append_assoc,List.getElem?_append_right (by omega),this]
 simp
theorem Zf8 {w:List Nat}{a:Nat}{f b lot:Int}{i j:Nat}(ha:a<w.length)(hb:b=3∨b=5∨b=7∨b=9∨b=11∨b=15)(hi:i<26)(hj:j<26)(h:(⟨(nameAt w a f b lot i).toArray⟩:Str)=⟨(nameAt w a f b lot j).toArray⟩):i=j:=by
 have h:nameAt w a f b lot i=nameAt w a f b lot j:=by injection h with h;injection h
 have h1:=V8 (f:=f) (b:=b) (lot:=lot) (i:=i) ha
 rw[h,V8 ha] at h1
 have h2:=Z8 (f+b * (i:Int)) (m:=26) (by decide)
 have h3:=Z8 (f+b * (j:Int)) (m:=26) (by decide)
 have h4:(f+b * (i:Int)) % 26=(f+b * (j:Int)) % 26:=by injection h1 with h1;omega
 have:=far hb (by omega) (by omega) (by omega) (by omega) h4
 omega
def Xa (w:List Nat)(a:Nat)(f b lot:Int)(n:Nat):List Str:=(List.range n).map fun i=>⟨(nameAt w a f b lot i).toArray⟩
theorem ZbY {α β:Type}{f:α→β}:∀ {l:List α},l.Nodup→(∀a∈l,∀b∈l,f a=f b→a=b)→(l.map f).Nodup
 | [],_,_=>List.nodup_nil
 | x :: r,h,hf=>by
   rw[List.nodup_cons] at h
   rw[List.map_cons,List.nodup_cons]
   refine⟨fun hm=>?_,ZbY h.2 fun a ha b hb=>hf a (List.mem_cons_of_mem _ ha) b (List.mem_cons_of_mem _ hb)⟩
   obtain⟨y,hy,e⟩:=List.mem_map.mp hm
   have:=hf y (List.mem_cons_of_mem _ hy) x (by simp) e
   subst this
   exact h.1 hy
theorem Zco {w:List Nat}{a:Nat}{f b lot:Int}{n:Nat}(ha:a<w.length)(hb:b=3∨b=5∨b=7∨b=9∨b=11∨b=15)(hn:n≤26):(Xa w a f b lot n).Nodup:=by
 refine ZbY List.nodup_range fun i hi j hj h=>?_
 rw[List.mem_range] at hi hj
 exact Zf8 ha hb (by omega) (by omega) h
theorem ZhI {α:Type}{l:List α}{i:Nat}{x:α}(h:l.Nodup)(hx:x∉l):(l.set i x).Nodup:=by
 induction l generalizing i with
 | nil=>exact List.nodup_nil
 | cons y r ih=>
   rw[List.nodup_cons] at h
   cases i with
   | zero=>
     rw[List.set_cons_zero,List.nodup_cons]
     exact⟨fun hm=>hx (List.mem_cons_of_mem _ hm),h.2⟩
   | succ i=>
     rw[List.set_cons_succ,List.nodup_cons]
     refine⟨fun hm=>?_,ih h.2 fun hm=>hx (List.mem_cons_of_mem _ hm)⟩
     rcases List.mem_or_eq_of_mem_set hm with hm | hm
     · exact h.1 hm
     · exact hx (by simp[hm])
theorem Zez (ys:List Str)(i:Nat)(y:Str):(ys.map D.str).set i (.str y)=(ys.set i y).map .str:=by rw[List.map_set]
theorem ZgB {Γ:Gam}{E:YM}{p q:Addr}{m first by_ lot at_:Int}{w:List Nat}{r9 r10:Option D}{S:Za}{acc:List D}{i:Nat}(w2:w.length≤8)(at1:0≤at_)(at2:at_<w.length)(ha:acc.length<sizeLine)(l0:0≤lot)
  (hb:by_=3∨by_=5∨by_=7∨by_=9∨by_=11∨by_=15) (hi:i<26)
  (hN:∀r9 r10,E.nx [some (.obj p),some (.int m),some (.str abcS),some (.str ⟨w.toArray⟩),some (.int at_),some (.int first),some (.int by_),some (.int lot),some (.obj q),r9,r10] (sput S q (.lst (acc++[.str ⟨(nameAt w at_.toNat first by_ lot i).toArray⟩])))) :
  wCs Γ L1_law_names E [some (.obj p),some (.int m),some (.str abcS),some (.str ⟨w.toArray⟩),some (.int at_),some (.int first),some (.int by_),some (.int lot),some (.obj q),some (.int (0+(i:Int))),r10] (sput S q (.lst acc)):=by
 unfold L1_law_names
 simp
 rw[sl_str (by omega),X8 _ (by omega)]
 simp
 refine⟨Zk (by decide),?_⟩
 have hz:∃z:Int,0≤z∧z.toNat=(if lot % 2=0 then 8 else i % 4)∧ixD [D.int 8,D.int ((i:Int) % 4)] (lot % 2)=some (.int z):=by
  have:lot % 2=0∨lot % 2=1:=by omega
  rcases this with h | h <;> rw[h]
  · exact⟨8,by omega,rfl,rfl⟩
  · exact⟨(i:Int) % 4,by omega,by simp;omega,rfl⟩
 obtain⟨z,z0,z1,ez⟩:=hz
 rw[ez]
 simp
 rw[sl_str (by rw[List.length_drop];omega),UH _ z0]
 simp
 rw[sl_str (by omega),UH _ at1]
 simp
 have h1:=ZW (a:=by_) (by omega) (by omega)
 have h2:=ZW (a:=(i:Int)) (by omega) (by omega)
 rw[Int.natAbs_natCast] at h2
 refine⟨by omega,?_⟩
 rw[Zfa (Z8 _ (by decide)).1 (Z8 _ (by decide)).2]
 simp
 have e1:({ cps:=(w.take at_.toNat).toArray }:Str)++({ cps:=#[97+((first+by_ * (i:Int)) % 26).toNat] }:Str)=⟨(w.take at_.toNat++[97+((first+by_ * (i:Int)) % 26).toNat]).toArray⟩:=Zfx _ [_]
 have hn:(at_+1).toNat=at_.toNat+1:=by omega
 rw[e1,Zfx,hn,z1]
 simp only[str_len]
 refine⟨Zk (by rw[List.length_take,List.length_singleton];omega),Zk ?_,ha,hN _ _⟩
 simp only[List.length_append,List.length_take,List.length_drop,List.length_singleton];omega
theorem Zjh {Γ:Gam}(hd:Γ.fn "_law_draw" Xn):FOk Γ 11 2 XB VD:=by
 refine okP ?_
 rintro p as o k S Q hp ho hk ⟨m,rfl,m1,m2⟩ q
 refine⟨rfl,?_⟩
 unfold XB
 simp
 refine⟨by decide +kernel,ZfS hd hp ho (by omega) fun w o1 w1 w2 wc ho1=>?_⟩
 rw[show meD .join=joinM from rfl,Znd (by omega)]
 simp
 rw[len_str (by omega)]
 refine Yy hd Zq ho1 (by omega) (by omega) (by omega) fun at_ o2 at1 at2 ho2=>?_
 refine Yy hd Zq ho2 (by omega) (by omega) (by omega) fun first o3 f1 f2 ho3=>?_
 refine⟨Zk (by decide),Yy hd Zq ho3 (by omega) (by omega) (by omega) fun bi o4 b1 b2 ho4=>?_⟩
 simp[Xo]
 obtain⟨by_,hb,eb⟩:∃b:Int,(b=3∨b=5∨b=7∨b=9∨b=11∨b=15)∧ixD [D.int 3,D.int 5,D.int 7,D.int 9,D.int 11,D.int 15] bi=some (.int b):=by
  have:bi=0∨bi=1∨bi=2∨bi=3∨bi=4∨bi=5:=by omega
  rcases this with rfl | rfl | rfl | rfl | rfl | rfl <;> exact⟨_,by simp,rfl⟩
 rw[eb]
 obtain⟨c,hc,ec⟩:=ix_str (S:=sput S p o4) (a:=w) (by omega) at1 at2
 have lc:=wc c (List.mem_of_getElem? hc)
 have ei:=Zhc lc
 rw[Xl,ec]
 refine⟨rfl,?_⟩
 rw[Xl,show meD .sindex (sput S p o4) (D.str (Str.ofString "abcdefghijklmnopqrstuvwxyz")) [D.str ⟨#[c]⟩]=some (.int ((c - 97:Nat):Int)) from ei,Xl]
 intro q' hq'
 have pq:p≠q':=fun e=>by subst e;rw[Zq] at hq';cases hq'
 refine⟨ZN 0 m,⟨by omega,rfl⟩,?_⟩
 generalize hlot:((c - 97:Nat):Int)=lot
 have l0:0≤lot:=by omega
 have hat:at_.toNat<w.length:=by omega
 have hi:∀i:Nat,i<(m - 0).toNat→i<26:=fun i h=>by omega
 rw[range_map]
 refine XY (fun i:Nat=>D.int (0+(i:Int))) (fun i:Nat=>[.str ⟨(nameAt w at_.toNat first by_ lot i).toArray⟩]) 1 (fun acc=>sput (sput S p o4) q' (.lst acc))
  (fun ρ=>∃r9 r10,ρ=[some (.obj p),some (.int m),some (.str abcS),some (.str ⟨w.toArray⟩),some (.int at_),some (.int first),some (.int by_),some (.int lot),some (.obj q'),r9,r10]) _ [] ⟨_,_,rfl⟩ (fun _=>⟨by omega,rfl⟩) (fun _ _=>Nat.le_refl _) ?_ ?_
 · rintro i hi' acc ρ K hl ⟨r9,r10,rfl⟩ hK
   rw[List.length_range] at hl
   rw[List.mem_range] at hi'
   exact ZgB (E:={ nx:=K,rt:=letGo Q }) (r9:=r9) w2 at1 at2 (Ui (by simp at hl;omega)) l0 hb (by omega) fun r9 r10=>hK _ ⟨_,_,rfl⟩
 · rintro ρ ⟨r9,r10,rfl⟩
   rw[List.nil_append]
   have e:((List.range (m - 0).toNat).flatMap fun i:Nat=>[D.str ⟨(nameAt w at_.toNat first by_ lot i).toArray⟩])=(Xa w at_.toNat first by_ lot m.toNat).map .str:=by
    rw[Int.sub_zero]
    unfold Xa
    rw[List.map_map]
    induction (List.range m.toNat) with
    | nil=>rfl
    | cons x r ih=>rw[List.flatMap_cons,ih];rfl
   rw[e]
   have hnd:=Zco (lot:=lot) (f:=first) hat hb (n:=m.toNat) (by omega)
   have hok:∀y∈Xa w at_.toNat first by_ lot m.toNat,Wd y:=by
    intro y hy
    obtain⟨i,_,rfl⟩:=List.mem_map.mp hy
    exact Zlk w2 hat wc
   have hlen:(Xa w at_.toNat first by_ lot m.toNat).length=m.toNat:=by unfold Xa;simp
   have fin:∀ys:List Str,(ys.length:Int)=m→ys.Nodup→(∀y∈ys,Wd y)→letGo Q (.lst (ys.map .str)) (sdel (sput (sput S p o4) q' (.lst (ys.map .str))) q'):=by
    intro ys h1 h2 h3
    rw[U9 hq']
    exact q _ o4 (.mk m ys h1 h2 h3) (ho4.up (by omega))
   have els:=fin _ (by rw[hlen];omega) hnd hok
   have thn:0<at_→0<m→(match subD (sput (sput S p o4) q' (.lst ((Xa w at_.toNat first by_ lot m.toNat).map .str))) (.obj q') (.int (lot / 6 % m)) (.str ⟨(w.take at_.toNat).toArray⟩) with
      | some S4=>(match S4 q' with | some (.lst ds)=>letGo Q (.lst ds) (sdel S4 q') | some (.dic kvs)=>letGo Q (.dic (kvs.map (·.1)) (kvs.map (·.2))) (sdel S4 q') | _=>False) | none=>False):=by
    intro h1 h2
    have hr:=Z8 (lot / 6) h2
    have es:subD (sput (sput S p o4) q' (.lst ((Xa w at_.toNat first by_ lot m.toNat).map .str))) (.obj q') (.int (lot / 6 % m)) (.str ⟨(w.take at_.toNat).toArray⟩)=some (sput (sput (sput S p o4) q' (.lst ((Xa w at_.toNat first by_ lot m.toNat).map .str))) q' (.lst (((Xa w at_.toNat first by_ lot m.toNat).set (lot / 6 % m).toNat ⟨(w.take at_.toNat).toArray⟩).map .str))):=by
     unfold subD
     dsimp only
     rw[Zq]
     dsimp only
     rw[if_pos ⟨hr.1,by rw[List.length_map,hlen];omega⟩,Zez]
    rw[es]
    dsimp only
    rw[Xo,Zq]
    dsimp only
    refine fin _ (by rw[List.length_set,hlen];omega) (ZhI hnd ?_) ?_
    · intro hm
      obtain⟨i,_,e⟩:=List.mem_map.mp hm
      have e1:(nameAt w at_.toNat first by_ lot i)=w.take at_.toNat:=by injection e with e;injection e
      have e2:=V8 (f:=first) (b:=by_) (lot:=lot) (i:=i) hat
      rw[e1,List.getElem?_take_eq_none (by omega)] at e2
      cases e2
    · intro y hy
      rcases List.mem_or_eq_of_mem_set hy with hy | hy
      · exact hok y hy
      · subst hy
        refine⟨by rw[str_len,List.length_take];omega,by rw[str_len,List.length_take];omega,fun c hc=>?_⟩
        exact wc c (List.mem_of_mem_take (show c∈w.take at_.toNat by simpa using hc))
   simp
   by_cases h1:0<at_
   · by_cases h2:0<m
     · rw[if_pos h1,if_pos h2]
       refine⟨by decide,?_⟩
       split
       · rw[sl_str (by omega),UH _ at1,Xl]
         exact⟨by decide,h2,thn h1 h2⟩
       · exact els
     · rw[if_pos h1,if_neg h2,if_neg h2];exact els
   · rw[if_neg h1,if_neg h1];exact els
theorem Zf9:∀ds S Q Q',(∀d S',Q d S'→Q' d S')→VD ds S Q→VD ds S Q':=ZdW
end Sw
namespace Sw
open PySem
theorem Uj {S:Za}{p q:Addr}{o o' u:MO}(h:p≠q):sput (sput (sput S p o) q u) p o'=sput (sput S p o') q u:=by
 funext a;unfold sput
 by_cases h1:a=p
 · subst h1;simp[h]
 · by_cases h2:a=q
   · subst h2;simp[h1]
   · simp[h1,h2]
theorem Qc {S:Za}{p q:Addr}{o u:MO}(h:p≠q):sput (sput S p o) q u p=some o:=by rw[Zo h,Zq]
theorem Zna {α:Type}{f:α→D}{xs:List α}{i:Int}{n:Nat}{x:α}(hi:i=(n:Int))(h:xs[n]?=some x):ixD (xs.map f) i=some (f x):=by
 unfold ixD
 rw[if_pos (by omega)]
 have:i.toNat=n:=by omega
 rw[this,List.getElem?_map,h];rfl
inductive Zcv:List D→D→Prop
 | mk (m:Int) (r:Room) (h:Zv r) (hm:((namesOf r.rows).length:Int)≤m):Zcv [.int m] (Zj r)
def Zia:ZA:=spP 60 (fun as=>∃m:Int,as=[.int m]∧1≤m∧m≤8) Zcv
structure Vk (ys:List Str)(many:Nat)(rows:List (List Tab))(at_:Nat):Prop where
 names:namesOf rows=ys.take at_
 le:at_≤many
 few:rows.length≤4
 four:rows.length=4→at_=many
 row1:∀l∈rows,1≤l.length
 row6:∀l∈rows,l.length≤6
 more:rows.length≤at_
 place:∀l∈rows,∀t∈l,1≤t.2∧t.2≤20
theorem Zdv (rows:List (List Tab))(l:List Tab):namesOf (rows++[l])=namesOf rows++l.map (·.1):=by
 unfold namesOf;rw[List.flatMap_append];simp
theorem Vk.snoc {ys:List Str}{many at_ s:Nat}{rows:List (List Tab)}(R:Vk ys many rows at_)(hy:ys.length=many)(h8:many≤8){l:List Tab}(hl:l.length=s)(h1:1≤s)(h2:at_+s≤many)(h3:rows.length=3→at_+s=many)(h6:rows.length<3→s≤6)(hlt:at_<many)
  (hn:l.map (·.1)=(ys.drop at_).take s) (hp:∀t∈l,1≤t.2∧t.2≤20):Vk ys many (rows++[l]) (at_+s):=by
 have r3:rows.length≤3:=by
  have:=R.few
  have:=R.four
  rcases Nat.lt_or_ge rows.length 4 with h | h
  · omega
  · have:rows.length=4:=by omega
    have:=R.four this
    omega
 have hm:=R.more
 refine⟨?_,h2,by rw[List.length_append,List.length_singleton];omega,?_,?_,?_,by rw[List.length_append,List.length_singleton];omega,?_⟩
 · rw[Zdv,R.names,hn,List.take_add]
 · rw[List.length_append,List.length_singleton]
   intro h
   exact h3 (by omega)
 · intro x hx
   rcases List.mem_append.mp hx with hx | hx
   · exact R.row1 x hx
   · rw[List.mem_singleton.mp hx];omega
 · intro x hx
   rcases List.mem_append.mp hx with hx | hx
   · exact R.row6 x hx
   · rw[List.mem_singleton.mp hx]
     rcases Nat.lt_or_ge rows.length 3 with h | h
     · have:=h6 h;omega
     · omega
 · intro x hx
   rcases List.mem_append.mp hx with hx | hx
   · exact R.place x hx
   · rw[List.mem_singleton.mp hx];exact hp
theorem Zjw {Γ:Gam}(hd:Γ.fn "_law_draw" Xn) {p q:Addr} {o:MO} {k:Nat} {S:Za} {L:MO} {Q:Qd} {r1 r2 r5 r8:Option D} {ys:List Str} {wide:Int} {at_ s:Nat} (pq:p≠q) (ho:PenO o k) (hk:k+s≤2 ^ 40) (hw:0<wide) (hw2:wide≤20) (hs:at_+s≤ys.length) (hs2:s≤1000) (ha:at_≤1000)
  (q1:∀(l:List Tab)(o':MO),l.length=s→l.map (·.1)=(ys.drop at_).take s→(∀t∈l,1≤t.2∧t.2≤20)→PenO o' (k+s)→Q (.lst (l.map tabD)) (sput (sput S p o') q L)) :
  Sw.wE Γ E1_law_room [some (.obj p),r1,r2,some (.lst (ys.map .str)),some (.int wide),r5,some (.int (at_:Int)),some (.int (s:Int)),r8] (sput (sput S p o) q L) Q:=by
 unfold E1_law_room
 simp
 refine⟨ZN at_ (at_+s),⟨⟨by omega,by omega⟩,rfl⟩,?_⟩
 rw[range_map]
 have e0:((at_:Int)+s - at_).toNat=s:=by omega
 rw[e0]
 refine ZfC (p:=p) (o:=o) (k:=k) (fun i:Nat=>D.int ((at_:Int)+(i:Int))) tabD (fun(i:Nat) t=>ys[at_+i]?=some t.1∧1≤t.2∧t.2≤20) 1 _ (by rw[List.length_range];exact Zk (by omega)) (Qc pq) ho ?_ ?_
 · intro i x bs o2 K hx hb hi ho2 hs' hK
   rw[List.length_range] at hi
   rw[List.getElem?_range hi] at hx
   cases hx
   have hy:at_+i<ys.length:=by omega
   have e1:ixD (ys.map D.str) ((at_:Int)+(i:Int))=some (.str ys[at_+i]):=Zna (n:=at_+i) (by omega) (List.getElem?_eq_getElem hy)
   rw[Uj pq]
   simp
   refine⟨⟨by omega,by omega⟩,?_⟩
   rw[e1]
   simp
   refine Yy hd (Qc pq) ho2 (by omega) hw (by omega) fun y o3 y1 y2 ho3=>?_
   rw[Uj pq]
   simp
   refine⟨Zk (by decide),hs',?_⟩
   have:=hK (ys[at_+i],1+y) o3 ⟨List.getElem?_eq_getElem hy,by dsimp only;omega,by dsimp only;omega⟩ (ho3.up (by omega))
   rw[Uj pq] at this
   exact this
 · intro bs o2 hb hR ho2
   rw[List.length_range] at hb ho2
   rw[Uj pq]
   refine⟨⟨⟨by omega,by omega⟩,rfl⟩,q1 bs o2 hb ?_ ?_ (ho2.up (by omega))⟩
   · apply List.ext_getElem?
     intro i
     rw[List.getElem?_map,List.getElem?_take]
     split
     · next hi=>
       have hbi:i<bs.length:=by omega
       obtain⟨h1,_⟩:=hR i i bs[i] (List.getElem?_range hi) (List.getElem?_eq_getElem hbi)
       rw[List.getElem?_eq_getElem hbi,List.getElem?_drop,h1];rfl
     · next hi=>rw[List.getElem?_eq_none (by omega)];rfl
   · intro t ht
     obtain⟨i,hi,e⟩:=List.getElem_of_mem ht
     exact(hR i i t (List.getElem?_range (by omega)) (by rw[List.getElem?_eq_getElem hi,e])).2
theorem ZlW {i:Int}(h1:0≤i)(h2:i<3):∃w:Int,0<w∧w≤20∧ixD [D.int 20,D.int 6,D.int 3] i=some (.int w):=by
 have:i=0∨i=1∨i=2:=by omega
 rcases this with rfl | rfl | rfl
 · exact⟨20,by omega,by omega,rfl⟩
 · exact⟨6,by omega,by omega,rfl⟩
 · exact⟨3,by omega,by omega,rfl⟩
theorem Zij {Γ:Gam}(hd:Γ.fn "_law_draw" Xn) {E:YM} {p q:Addr} {o:MO} {k:Nat} {S:Za} {r1 r7 r8:Option D} {ys:List Str} {wide:Int} {rows:List (List Tab)} {at_ many:Nat} (pq:p≠q) (ho:PenO o k) (hk:k+10≤2 ^ 40) (hw:0<wide) (hw2:wide≤20) (hy:ys.length=many) (h8:many≤8)
  (R:Vk ys many rows at_) (hlt:at_<many)
  (hN:∀s l o' r7 r8,1≤s→at_+s≤many→Vk ys many (rows++[l]) (at_+s)→PenO o' (k+1+s)→E.nx [some (.obj p),r1,some (.int (many:Int)),some (.lst (ys.map .str)),some (.int wide),some (.obj q),some (.int ((at_+s:Nat):Int)),r7,r8] (sput (sput S p o') q (.lst ((rows++[l]).map ZF)))) :
  wCs Γ L1_law_room E [some (.obj p),r1,some (.int (many:Int)),some (.lst (ys.map .str)),some (.int wide),some (.obj q),some (.int (at_:Int)),r7,r8] (sput (sput S p o) q (.lst (rows.map ZF))):=by
 unfold L1_law_room
 simp
 have r3:rows.length≤3:=by
  have:=R.few
  rcases Nat.lt_or_ge rows.length 4 with h | h
  · omega
  · have:=R.four (by omega)
    omega
 refine Yy hd (Qc pq) ho (by omega) (by omega) (by omega) fun r o1 r0 r1 ho1=>?_
 rw[Uj pq]
 simp
 refine⟨Zk (by decide),?_⟩
 obtain⟨s,s1,s2,s3,s6,es⟩:∃s:Nat,1≤s∧at_+s≤many∧(rows.length=3→at_+s=many)∧(rows.length<3→s≤6)∧ixD [D.int (if 1+r<(many:Int) - at_ then 1+r else(many:Int) - at_),D.int ((many:Int) - at_)] (if(rows.length:Int)=3 then 1 else 0)=some (.int (s:Int)):=by
  by_cases h3:rows.length=3
  · have h3':(rows.length:Int)=3:=by omega
    rw[if_pos h3']
    exact⟨many - at_,by omega,by omega,fun _=>by omega,fun h=>by omega,by show some (D.int _)=_;congr 2;omega⟩
  · have h3':¬(rows.length:Int)=3:=by omega
    rw[if_neg h3']
    by_cases h:1+r<(many:Int) - at_
    · rw[if_pos h]
      exact⟨(1+r).toNat,by omega,by omega,fun z=>by omega,fun _=>by omega,by show some (D.int _)=_;congr 2;omega⟩
    · rw[if_neg h]
      exact⟨many - at_,by omega,by omega,fun z=>by omega,fun _=>by omega,by show some (D.int _)=_;congr 2;omega⟩
 rw[es]
 rw[Xl]
 refine Zjw hd pq ho1 (by omega) hw hw2 (by omega) (by omega) (by omega) fun l o2 hl hn hp ho2=>?_
 simp
 refine⟨Ui (by omega),?_⟩
 have e1:(rows++[l]).map ZF=rows.map ZF++[ZF l]:=by simp
 have:=hN s l o2 (some (.int (s:Int))) r8 s1 s2 (R.snoc hy h8 hl s1 s2 s3 s6 hlt hn hp) ho2
 rw[e1,Int.natCast_add] at this
 exact this
def Zp4 (S:Za)(p q:Addr)(k:Nat)(m:Int)(ys:List Str)(many:Nat)(wide:Int):Nat→DEnv→Za→Prop:=fun j ρ S'=>∃(rows:List (List Tab)) (at_:Nat) (o':MO) (r7 r8:Option D),j=many - at_∧Vk ys many rows at_∧PenO o' (k+22+2 * at_)∧S'=sput (sput S p o') q (.lst (rows.map ZF))∧ρ=[some (.obj p),some (.int m),some (.int (many:Int)),some (.lst (ys.map .str)),some (.int wide),some (.obj q),some (.int (at_:Int)),r7,r8]
theorem Zlo {Γ:Gam}(hd:Γ.fn "_law_draw" Xn) (hn:Γ.fn "_law_names" VD):FOk Γ 9 2 X5 Zia:=by
 refine okP ?_
 rintro p as o k S Q hp ho hk ⟨m,rfl,m1,m2⟩ q
 refine⟨rfl,?_⟩
 unfold X5
 simp
 refine Yy hd hp ho (by omega) (by omega) (by omega) fun r0 o1 a1 a2 ho1=>?_
 simp
 refine ZoK hn Zq ho1 (by omega) ⟨1+r0,rfl,by omega,by omega⟩ fun d o2 hR ho2=>?_
 cases hR with
 | mk _ ys h1 h2 h3=>
 simp
 refine⟨Zk (by decide),Yy hd Zq ho2 (by omega) (by omega) (by omega) fun r1 o3 b1 b2 ho3=>?_⟩
 obtain⟨wide,w1,w2,ew⟩:=ZlW b1 b2
 simp
 rw[ew]
 rw[Xl]
 intro q' hq'
 have pq:p≠q':=fun e=>by subst e;rw[Zq] at hq';cases hq'
 obtain⟨many,hmany⟩:∃many:Nat,1+r0=(many:Int):=⟨(1+r0).toNat,by omega⟩
 have hy:ys.length=many:=by omega
 have e0:(1+r0)=(many:Int):=hmany
 rw[e0]
 refine⟨Zp4 S p q' k m ys many wide,?_,?_⟩
 · exact⟨many,[],0,o3,_,_,by omega,⟨rfl,by omega,by simp,by simp,by simp,by simp,by simp,by simp⟩,ho3.up (by omega),rfl,rfl⟩
 · rintro j ρ S' ⟨rows,at_,o',r7,r8,hj,R,ho',rfl,rfl⟩
   simp
   by_cases hlt:at_<many
   · rw[if_pos (by omega)]
     refine Zij hd pq ho' (by have:=R.le;omega) w1 w2 hy (by omega) R hlt fun s l o2 r7 r8 s1 s2 R2 ho2=>?_
     exact⟨many - (at_+s),by omega,rows++[l],at_+s,o2,r7,r8,rfl,R2,ho2.up (by omega),rfl,rfl⟩
   · rw[if_neg (by omega)]
     have hle:=R.le
     have hat:at_=many:=by omega
     refine Yy hd (Qc pq) ho' (by omega) (by omega) (by omega) fun r2 o4 c1 c2 ho4=>?_
     rw[Uj pq]
     refine Yy hd (Qc pq) ho4 (by omega) (by omega) (by omega) fun r3 o5 d1 d2 ho5=>?_
     rw[Uj pq]
     have g1:=ZW (a:=r2) (by omega) (by omega)
     have g2:=ZW (a:=r3) (by omega) (by omega)
     simp
     refine⟨by omega,Zk (by decide),?_⟩
     have hrn:namesOf rows=ys:=by rw[R.names,hat,← hy,List.take_length]
     have ok:Zv ⟨rows,r2 * r3⟩:=by
      refine⟨?_,R.few,R.row1,R.row6,by rw[hrn];omega,by rw[hrn];exact h2,by rw[hrn];exact h3,R.place,Int.mul_nonneg c1 d1,?_⟩
      · rcases rows with _ |⟨l,r⟩
        · unfold namesOf at hrn
          simp at hrn
          rw[hrn] at hy
          simp at hy
          omega
        · simp
      · have:r3=0∨r3=1:=by omega
        rcases this with rfl | rfl <;> dsimp only <;> omega
     have fin:=q (Zj ⟨rows,r2 * r3⟩) o5 (.mk m _ ok (by rw[hrn];omega)) (ho5.up (by omega))
     obtain⟨S2,sub,fin⟩:=fin
     exact⟨S2,fun a o h=>by
      have h4:=sub a o h
      have:a≠q':=fun e=>by subst e;rw[Zo (Ne.symm pq)] at h4;rw[Zo (Ne.symm pq)] at hq';rw[h4] at hq';cases hq'
      rw[Zo this];exact h4,fin⟩
end Sw
namespace Sw
open PySem
@[simp] theorem ixc0 {x:D}{r:List D}:ixD (x :: r) 0=some x:=rfl
@[simp] theorem ixc1 {x y:D}{r:List D}:ixD (x :: y :: r) 1=some y:=rfl
@[simp] theorem ixc2 {x y z:D}{r:List D}:ixD (x :: y :: z :: r) 2=some z:=rfl
@[simp] theorem ixc3 {x y z w:D}{r:List D}:ixD (x :: y :: z :: w :: r) 3=some w:=rfl
theorem WD:∀ns:List Int,Ww (ns.map .int)=some ns
 | []=>rfl
 | i :: r=>by rw[List.map_cons,Ww,WD r];rfl
theorem Wl:∀ns:List Bool,blsD (ns.map .bl)=some ns
 | []=>rfl
 | i :: r=>by rw[List.map_cons,blsD,Wl r];rfl
theorem sum_ints {S:Za}{ns:List Int}:biD .sum S [.lst (ns.map .int)]=some (.int ns.sum):=by
 rw[show biD .sum=sumF from rfl]
 unfold sumF;dsimp only[peel];rw[WD];rfl
theorem Zd3 {α:Type}{S:Za}{f:α→Int}{xs:List α}:biD .sum S [.lst (xs.map fun x=>.int (f x))]=some (.int (xs.map f).sum):=by
 have:(xs.map fun x=>D.int (f x))=(xs.map f).map .int:=by rw[List.map_map];rfl
 rw[this,sum_ints]
theorem ZiE {α:Type}{S:Za}{f:α→Bool}{xs:List α}:biD .all S [.lst (xs.map fun x=>.bl (f x))]=some (.bl (xs.all f)):=by
 have:(xs.map fun x=>D.bl (f x))=(xs.map f).map .bl:=by rw[List.map_map];rfl
 rw[show biD .all=allF from rfl,this]
 unfold allF;dsimp only[peel];rw[Wl];simp
def spS (R:Za→List D→D→Prop):ZA:=fun ds S Q=>∃d,R S ds d∧Q d S
theorem ZjF {R:Za→List D→D→Prop}:∀ds S Q Q',(∀d S',Q d S'→Q' d S')→spS R ds S Q→spS R ds S Q':=fun _ _ _ _ m ⟨d,h,q⟩=>⟨d,h,m _ _ q⟩
theorem ZoM {Γ:Gam}{f:Str}{R:Za→List D→D→Prop}(h:Γ.fn f (spS R)){as:List D}{d:D}{S:Za}{Q:Qd}(r:R S as d)(q:Q d S):∃sp,Γ.fn f sp∧sp as S Q:=⟨_,h,d,r,q⟩
inductive TogR:Za→List D→D→Prop
 | mk (S:Za) (x:D) (ts:List Tab) (lost:Int) (h:seqD S x=some (ts.map tabD)) (h1:ts.length≤1000) (h2:0≤lost) (h3:lost≤1000) (hs:∀z,x≠.str z):TogR S [x,.int lost] (.int (together ts lost))
def QC:ZA:=spS TogR
theorem Zbv {S:Za}{x:D}{ds:List D}(h:seqD S x=some ds)(hs:∀z,x≠.str z):srcD .it S [x]=some ds:=by
 rw[show srcD .it=itS from rfl]
 unfold itS
 split
 · next z e=>cases e;exact absurd rfl (hs z)
 · next e=>cases e;exact h
 · next h1 h2=>exact absurd rfl (h2 x)
theorem Zlc {S:Za}{x:D}{ds:List D}(h:seqD S x=some ds):biD .len S [x]=some (.int ds.length):=by
 rw[show biD .len=lenF from rfl]
 cases x with
 | tup es=>cases h;rfl
 | lst es=>cases h;rfl
 | obj a=>unfold lenF;dsimp only;rw[h]
 | _=>cases h
theorem Zny {Γ:Gam}:FOk Γ 3 2 Ym QC:=by
 rintro _ S Q ⟨_,⟨x,ts,lost,h,h1,h2,h3,hs⟩,q⟩
 refine⟨rfl,?_⟩
 unfold Ym E1_places_together
 simp
 refine⟨_,Zbv h hs,QG tabD (fun t=>.int t.2) ts (Zk (by omega)) ?_ ?_⟩
 · intro t ht acc K ha hK
   refine⟨Zbv h hs,?_⟩
   show optD (ixOf S (.tup [.str t.1,.int t.2]) (.int 1)) _
   simp
   exact⟨ha,hK⟩
 · refine⟨Zbv h hs,?_⟩
   rw[Zd3,Zlc h]
   simp
   have g1:=ZW (a:=lost) (by omega) (by omega)
   have g2:=ZW (a:=(ts.length:Int) - 1) (by omega) (by omega)
   exact⟨by omega,Yr q⟩
inductive Qp:List D→D→Prop
 | mk (r:Room) (h:Zv r):Qp [Zj r] (.lst ((ZD r).map Zd))
def W8:ZA:=spR Qp
theorem Zdr {Γ:Gam}(ht:Γ.fn "places_together" QC) {E:YM} {q:Addr} {S:Za} {r0 r3 r6 r7 r8:Option D} {l:List Tab} {lost:Int} {m:Nat} {acc:List D} (hl:l.length≤6) (h0:0≤lost) (h4:lost≤4) (m1:1≤m) (m3:m≤3) (ha:acc.length≤500)
  (hN:∀r6 r7 r8,E.nx [r0,some (.obj q),some (.int (m:Int)),r3,some (.int lost),some (ZF l),r6,r7,r8] (sput S q (.lst (acc++(((List.range (l.length+1 - m)).flatMap fun i=>standAt lost l m i).map Zd))))) :
  wCs Γ L2_stands_of E [r0,some (.obj q),some (.int (m:Int)),r3,some (.int lost),some (ZF l),r6,r7,r8] (sput S q (.lst acc)):=by
 unfold L2_stands_of ZF
 simp
 refine⟨ZN 0 ((l.length:Int) - m+1),⟨⟨by omega,by omega⟩,rfl⟩,?_⟩
 rw[range_map]
 have e0:((l.length:Int) - m+1 - 0).toNat=l.length+1 - m:=by omega
 rw[e0]
 refine XY (fun i:Nat=>D.int (0+(i:Int))) (fun i:Nat=>(standAt lost l m i).map Zd) 1 (fun acc=>sput S q (.lst acc)) (fun ρ=>∃r6 r7 r8,ρ=[r0,some (.obj q),some (.int (m:Int)),r3,some (.int lost),some (.tup (l.map tabD)),r6,r7,r8]) _ acc ⟨_,_,_,rfl⟩ (fun _=>⟨⟨by omega,by omega⟩,rfl⟩) ?_ ?_ ?_
 · intro i _
   unfold standAt
   rw[List.length_map];split <;> simp
 · rintro i hi acc' ρ K hl' ⟨r6,r7,r8,rfl⟩ hK
   rw[List.mem_range] at hi
   rw[List.length_range] at hl'
   unfold L1_stands_of
   simp
   have ec:cutD (l.map tabD) (some (i:Int)) (some ((i:Int)+m))=(runOf l i m).map tabD:=by
    rw[Q5 _ (by omega) (by omega)]
    unfold runOf
    rw[List.map_take,List.map_drop]
    congr 1
    omega
   rw[ec]
   have hr:(runOf l i m).length≤6:=by unfold runOf;rw[List.length_take,List.length_drop];omega
   refine ZoM ht (.mk _ _ _ lost rfl (by omega) h0 (by omega) (fun z h=>by cases h)) ?_
   simp
   split
   · next hp=>
     unfold E1_stands_of
     simp
     refine QG tabD (fun t=>.str t.1) _ (Zk (by omega)) ?_ ?_
     · intro t _ acc2 K2 ha2 hK2
       show optD (ixOf _ (.tup [.str t.1,.int t.2]) (.int 0)) _
       simp
       exact⟨ha2,hK2⟩
     · simp
       refine⟨Ui (by simp only[Nat.one_mul] at hl';omega),?_⟩
       have hst:(standAt lost l m i).map Zd=[.tup ((runOf l i m).map fun t=>.str t.1)]:=by simp[standAt,hp,Zd]
       rw[hst] at hK
       exact hK _ ⟨_,_,_,rfl⟩
   · next hp=>
     have hst:(standAt lost l m i).map Zd=[]:=by simp[standAt,hp]
     rw[hst,List.append_nil] at hK
     exact hK _ ⟨_,_,_,rfl⟩
 · rintro ρ ⟨r6,r7,r8,rfl⟩
   rw[← List.map_flatMap]
   exact hN _ _ _
theorem ZeQ (lost:Int)(l:List Tab)(m i:Nat):(standAt lost l m i).length≤1:=by unfold standAt;split <;> simp
theorem Qq {α β:Type}{f:α→List β}{n:Nat}:∀ {xs:List α},(∀x∈xs,(f x).length≤n)→(xs.flatMap f).length≤n * xs.length
 | [],_=>by simp
 | x :: r,h=>by
   have h1:=h x (by simp)
   have h2:=Qq (xs:=r) fun y hy=>h y (List.mem_cons_of_mem _ hy)
   rw[List.flatMap_cons,List.length_append,List.length_cons,Nat.mul_succ];omega
theorem WJ (lost:Int)(l:List Tab)(m:Nat)(hl:l.length≤6):((List.range (l.length+1 - m)).flatMap fun i=>standAt lost l m i).length≤7:=by
 have:=Qq (f:=fun i=>standAt lost l m i) (xs:=List.range (l.length+1 - m)) (n:=1) fun i _=>ZeQ lost l m i
 rw[List.length_range] at this;omega
theorem Zds {Γ:Gam}(ht:Γ.fn "places_together" QC) {E:YM} {q:Addr} {S:Za} {r0 r5 r6 r7 r8:Option D} {rows:List (List Tab)} {lost:Int} {m:Nat} {acc:List D} (hr:rows.length≤4) (hl:∀l∈rows,l.length≤6) (h0:0≤lost) (h4:lost≤4) (m1:1≤m) (m3:m≤3) (ha:acc.length≤400)
  (hN:∀r5 r6 r7 r8,E.nx [r0,some (.obj q),some (.int (m:Int)),some (.tup (rows.map ZF)),some (.int lost),r5,r6,r7,r8] (sput S q (.lst (acc++((rows.flatMap fun l=>(List.range (l.length+1 - m)).flatMap fun i=>standAt lost l m i).map Zd))))) :
  wCs Γ L3_stands_of E [r0,some (.obj q),some (.int (m:Int)),some (.tup (rows.map ZF)),some (.int lost),r5,r6,r7,r8] (sput S q (.lst acc)):=by
 unfold L3_stands_of
 simp
 refine XY ZF (fun l:List Tab=>((List.range (l.length+1 - m)).flatMap fun i=>standAt lost l m i).map Zd) 7 (fun acc=>sput S q (.lst acc)) (fun ρ=>∃r5 r6 r7 r8,ρ=[r0,some (.obj q),some (.int (m:Int)),some (.tup (rows.map ZF)),some (.int lost),r5,r6,r7,r8]) _ acc ⟨_,_,_,_,rfl⟩ (fun _=>trivial) ?_ ?_ ?_
 · intro l hl'
   rw[List.length_map];exact WJ lost l m (hl l hl')
 · rintro l hl' acc' ρ K hb ⟨r5,r6,r7,r8,rfl⟩ hK
   exact Zdr ht (E:={ nx:=K,rt:=E.rt }) (hl l hl') h0 h4 m1 m3 (by omega) fun r6 r7 r8=>hK _ ⟨_,_,_,_,rfl⟩
 · rintro ρ ⟨r5,r6,r7,r8,rfl⟩
   rw[← List.map_flatMap]
   exact hN _ _ _ _
theorem Vj (r:Room)(h:Zv r)(m:Nat):(r.rows.flatMap fun l=>(List.range (l.length+1 - m)).flatMap fun i=>standAt r.lost l m i).length≤28:=by
 have:=Qq (f:=fun l:List Tab=>(List.range (l.length+1 - m)).flatMap fun i=>standAt r.lost l m i) (xs:=r.rows) (n:=7) fun l hl=>WJ r.lost l m (h.row6 l hl)
 have:=h.few
 omega
theorem Zeh {Γ:Gam}(ht:Γ.fn "places_together" QC) {E:YM} {q:Addr} {S:Za} {r0:Option D} {r:Room} (h:Zv r)
  (hN:∀ρ,(∃r2 r5 r6 r7 r8,ρ=[r0,some (.obj q),r2,some (.tup (r.rows.map ZF)),some (.int r.lost),r5,r6,r7,r8])→E.nx ρ (sput S q (.lst ((ZD r).map Zd)))) :
  wFor (fun _=>True) (fun d ρ S N=>wCs Γ L3_stands_of { nx:=N,rt:=E.rt } (ρ.set 2 (some d)) S) (ZN 1 4) [r0,some (.obj q),none,some (.tup (r.rows.map ZF)),some (.int r.lost),none,none,none,none] (sput S q (.lst [])) E.nx:=by
 have er:ZN 1 4=[1,2,3].map fun m:Nat=>D.int (m:Int):=rfl
 rw[er]
 refine XY (fun m:Nat=>D.int (m:Int)) (fun m:Nat=>(r.rows.flatMap fun l=>(List.range (l.length+1 - m)).flatMap fun i=>standAt r.lost l m i).map Zd) 28 (fun acc=>sput S q (.lst acc)) (fun ρ=>∃r2 r5 r6 r7 r8,ρ=[r0,some (.obj q),r2,some (.tup (r.rows.map ZF)),some (.int r.lost),r5,r6,r7,r8]) _ [] ⟨_,_,_,_,_,rfl⟩ (fun _=>trivial) ?_ ?_ ?_
 · intro m _
   rw[List.length_map];exact Vj r h m
 · rintro m hm acc' ρ K hb ⟨r2,r5,r6,r7,r8,rfl⟩ hK
   have hm:m=1∨m=2∨m=3:=by simpa using hm
   exact Zds ht (E:={ nx:=K,rt:=E.rt }) h.few h.row6 h.lost0 h.lost4 (by omega) (by omega) (by simp at hb;omega) fun r5 r6 r7 r8=>hK _ ⟨_,_,_,_,_,rfl⟩
 · rintro ρ h
   rw[← List.map_flatMap,List.nil_append]
   exact hN ρ h
theorem ZhJ {Γ:Gam}(ht:Γ.fn "places_together" QC) (hg:Γ.gl "MOST_PUSHED" (.int 3)):FOk Γ 9 1 XD W8:=by
 rintro _ S Q ⟨_,⟨r,h⟩,q⟩
 refine⟨rfl,?_⟩
 unfold XD Zj
 simp
 intro q' hq'
 refine⟨_,hg,?_⟩
 simp
 refine Zeh ht (E:={ nx:=_,rt:=letGo Q }) h ?_
 rintro ρ ⟨r2,r5,r6,r7,r8,rfl⟩
 simp
 rw[U9 hq']
 exact Yr q
end Sw
namespace Sw
open PySem
inductive Ziy:List D→D→Prop
 | mk (rows:List (List Tab)) (h:rows.length≤100) (h6:∀l∈rows,l.length≤100):Ziy [.tup (rows.map ZF)] (.lst ((namesOf rows).map .str))
inductive Zko:List D→D→Prop
 | mk (r:Room) (h:Zv r):Zko [Zj r] (.lst ((namesOf r.rows).map .str))
inductive Zkl:List D→D→Prop
 | mk (r:Room) (st:List Str) (h:Zv r):Zkl [Zj r,Zd st] (.int (placesOf r st))
inductive ZoA:List D→D→Prop
 | mk (a b:List Str) (h:a.length≤1000):ZoA [Zd a,Zd b] (.bl (a.any fun x=>decide (x∈b)))
def YT (lost:Int)(l:List Tab)(m i:Nat):List (List Str):=if(runOf l i m).length=m∧0<((runOf l i m).map (·.2)).sum - lost * ((m:Int) - 1) then [(runOf l i m).map (·.1)] else []
theorem ZbS {α β:Type}{f:α→List β}:∀ {xs:List α},(∀x∈xs,f x=[])→xs.flatMap f=[]
 | [],_=>rfl
 | x :: r,h=>by rw[List.flatMap_cons,h x (by simp),ZbS fun y hy=>h y (List.mem_cons_of_mem _ hy)];rfl
theorem ZbR {α β:Type}{f g:α→List β}:∀ {xs:List α},(∀x∈xs,f x=g x)→xs.flatMap f=xs.flatMap g
 | [],_=>rfl
 | x :: r,h=>by rw[List.flatMap_cons,List.flatMap_cons,h x (by simp),ZbR fun y hy=>h y (List.mem_cons_of_mem _ hy)]
theorem Zgx (lost:Int)(l:List Tab)(m:Nat)(m1:1≤m):((List.range l.length).flatMap fun i=>YT lost l m i)=(List.range (l.length+1 - m)).flatMap fun i=>standAt lost l m i:=by
 have hz:∀i,i+m≤l.length→YT lost l m i=standAt lost l m i:=by
  intro i hi
  have hr:(runOf l i m).length=m:=by unfold runOf;rw[List.length_take,List.length_drop];omega
  unfold YT standAt together
  simp[hr]
 have hn:∀i,l.length<i+m→YT lost l m i=[]:=by
  intro i hi
  have hr:(runOf l i m).length≠m:=by unfold runOf;rw[List.length_take,List.length_drop];omega
  unfold YT
  rw[if_neg fun h=>hr h.1]
 have:List.range l.length=List.range (l.length+1 - m)++(List.range (l.length - (l.length+1 - m))).map (l.length+1 - m + ·):=by
  rw[← List.range_add];congr 1;omega
 rw[this,List.flatMap_append,ZbS (xs:=(List.range _).map _) fun x hx=>?_,List.append_nil]
 · refine ZbR fun i hi=>?_
   rw[List.mem_range] at hi
   exact hz i (by omega)
 · obtain⟨j,hj,rfl⟩:=List.mem_map.mp hx
   rw[List.mem_range] at hj
   exact hn _ (by omega)
theorem Znl {l:List Tab}{i m:Nat}:cutD (l.map tabD) (some (i:Int)) (some ((i:Int)+m))=(runOf l i m).map tabD:=by
 rw[Q5 _ (by omega) (by omega)]
 unfold runOf
 rw[List.map_take,List.map_drop]
 congr 1
 omega
theorem ZhX {l:List Tab}{i m:Nat}:(runOf l i m).length≤l.length:=by unfold runOf;rw[List.length_take,List.length_drop];omega
theorem Zaf {Γ:Gam}{E:YM}{q:Addr}{S:Za}{r4 r5 r6 r7:Option D}{l:List Tab}{r:Room}{m:Nat}{acc:List D}(hl:l.length≤6)(h0:0≤r.lost)(h4:r.lost≤4)(m1:1≤m)(m3:m≤3)(ha:acc.length≤500)
  (hN:∀r4 r5 r6 r7,E.nx [some (Zj r),some (.obj q),some (.int (m:Int)),some (ZF l),r4,r5,r6,r7] (sput S q (.lst (acc++(((List.range (l.length+1 - m)).flatMap fun i=>standAt r.lost l m i).map Zd))))) :
  wCs Γ L2_law_stands E [some (Zj r),some (.obj q),some (.int (m:Int)),some (ZF l),r4,r5,r6,r7] (sput S q (.lst acc)):=by
 unfold L2_law_stands ZF
 simp
 refine⟨ZN 0 (l.length:Int),⟨by omega,rfl⟩,?_⟩
 rw[range_map]
 have e0:((l.length:Int) - 0).toNat=l.length:=by omega
 rw[e0]
 refine XY (fun i:Nat=>D.int (0+(i:Int))) (fun i:Nat=>(YT r.lost l m i).map Zd) 1 (fun acc=>sput S q (.lst acc)) (fun ρ=>∃r4 r5 r6 r7,ρ=[some (Zj r),some (.obj q),some (.int (m:Int)),some (.tup (l.map tabD)),r4,r5,r6,r7]) _ acc ⟨_,_,_,_,rfl⟩ (fun _=>⟨by omega,rfl⟩) ?_ ?_ ?_
 · intro i _
   unfold YT
   rw[List.length_map];split <;> simp
 · rintro i hi acc' ρ K hl' ⟨r4,r5,r6,r7,rfl⟩ hK
   rw[List.mem_range] at hi
   rw[List.length_range] at hl'
   have hr:=ZhX (l:=l) (i:=i) (m:=m)
   unfold L1_law_stands E2_law_stands
   simp
   rw[Znl]
   refine QG tabD (fun t=>.int t.2) _ (Zk (by omega)) ?_ ?_
   · intro t _ acc2 K2 ha2 hK2
     show optD (ixOf _ (.tup [.str t.1,.int t.2]) (.int 1)) _
     simp
     exact⟨ha2,hK2⟩
   · rw[Zd3]
     unfold Zj
     simp
     have g1:=ZW (a:=r.lost) (by omega) (by omega)
     have g2:=ZW (a:=(m:Int) - 1) (by omega) (by omega)
     refine⟨by omega,?_⟩
     by_cases hm:(runOf l i m).length=m
     · by_cases hp:r.lost * ((m:Int) - 1)<((runOf l i m).map (·.2)).sum
       · rw[if_pos (by omega)]
         rw[if_pos (by omega)]
         unfold E1_law_stands
         simp
         refine QG tabD (fun t=>.str t.1) _ (Zk (by omega)) ?_ ?_
         · intro t _ acc2 K2 ha2 hK2
           show optD (ixOf _ (.tup [.str t.1,.int t.2]) (.int 0)) _
           simp
           exact⟨ha2,hK2⟩
         · simp
           refine⟨Ui (by simp only[Nat.one_mul] at hl';omega),?_⟩
           have hst:(YT r.lost l m i).map Zd=[.tup ((runOf l i m).map fun t=>.str t.1)]:=by
            unfold YT
            rw[if_pos ⟨hm,by omega⟩]
            simp[Zd]
           rw[hst] at hK
           exact hK _ ⟨_,_,_,_,rfl⟩
       · rw[if_pos (by omega)]
         rw[if_neg (by omega)]
         have hst:(YT r.lost l m i).map Zd=[]:=by
          unfold YT
          rw[if_neg (fun h=>by omega)];rfl
         rw[hst,List.append_nil] at hK
         exact hK _ ⟨_,_,_,_,rfl⟩
     · rw[if_neg (by omega)]
       have hst:(YT r.lost l m i).map Zd=[]:=by
        unfold YT
        rw[if_neg (fun h=>hm h.1)];rfl
       rw[hst,List.append_nil] at hK
       rw[if_neg (by omega)]
       exact hK _ ⟨_,_,_,_,rfl⟩
 · rintro ρ ⟨r4,r5,r6,r7,rfl⟩
   rw[← List.map_flatMap,Zgx r.lost l m m1]
   exact hN _ _ _ _
theorem Zag {Γ:Gam}{E:YM}{q:Addr}{S:Za}{r3 r4 r5 r6 r7:Option D}{r:Room}{m:Nat}{acc:List D}(h:Zv r)(m1:1≤m)(m3:m≤3)(ha:acc.length≤400)
  (hN:∀r3 r4 r5 r6 r7,E.nx [some (Zj r),some (.obj q),some (.int (m:Int)),r3,r4,r5,r6,r7] (sput S q (.lst (acc++((r.rows.flatMap fun l=>(List.range (l.length+1 - m)).flatMap fun i=>standAt r.lost l m i).map Zd))))) :
  wCs Γ L3_law_stands E [some (Zj r),some (.obj q),some (.int (m:Int)),r3,r4,r5,r6,r7] (sput S q (.lst acc)):=by
 have hr:=h.few
 unfold L3_law_stands
 simp
 rw[show ixOf (sput S q (.lst acc)) (Zj r) (.int 0)=some (.tup (r.rows.map ZF)) from rfl]
 simp
 refine XY ZF (fun l:List Tab=>((List.range (l.length+1 - m)).flatMap fun i=>standAt r.lost l m i).map Zd) 7 (fun acc=>sput S q (.lst acc)) (fun ρ=>∃r3 r4 r5 r6 r7,ρ=[some (Zj r),some (.obj q),some (.int (m:Int)),r3,r4,r5,r6,r7]) _ acc ⟨_,_,_,_,_,rfl⟩ (fun _=>trivial) ?_ ?_ ?_
 · intro l hl'
   rw[List.length_map];exact WJ r.lost l m (h.row6 l hl')
 · rintro l hl' acc' ρ K hb ⟨r3,r4,r5,r6,r7,rfl⟩ hK
   exact Zaf (E:={ nx:=K,rt:=E.rt }) (h.row6 l hl') h.lost0 h.lost4 m1 m3 (by omega) fun r4 r5 r6 r7=>hK _ ⟨_,_,_,_,_,rfl⟩
 · rintro ρ ⟨r3,r4,r5,r6,r7,rfl⟩
   rw[← List.map_flatMap]
   exact hN _ _ _ _ _
theorem Zcp {Γ:Gam}:FOk Γ 8 1 Xh W8:=by
 rintro _ S Q ⟨_,⟨r,h⟩,q⟩
 refine⟨rfl,?_⟩
 unfold Xh
 simp
 intro q' hq'
 have er:ZN 1 4=[1,2,3].map fun m:Nat=>D.int (m:Int):=rfl
 rw[er]
 refine XY (fun m:Nat=>D.int (m:Int)) (fun m:Nat=>(r.rows.flatMap fun l=>(List.range (l.length+1 - m)).flatMap fun i=>standAt r.lost l m i).map Zd) 28 (fun acc=>sput S q' (.lst acc)) (fun ρ=>∃r2 r3 r4 r5 r6 r7,ρ=[some (Zj r),some (.obj q'),r2,r3,r4,r5,r6,r7]) _ [] ⟨_,_,_,_,_,_,rfl⟩ (fun _=>trivial) ?_ ?_ ?_
 · intro m _
   rw[List.length_map];exact Vj r h m
 · rintro m hm acc' ρ K hb ⟨r2,r3,r4,r5,r6,r7,rfl⟩ hK
   have hm:m=1∨m=2∨m=3:=by simpa using hm
   exact Zag (E:={ nx:=K,rt:=letGo Q }) h (by omega) (by omega) (by simp at hb;omega) fun r3 r4 r5 r6 r7=>hK _ ⟨_,_,_,_,_,_,rfl⟩
 · rintro ρ ⟨r2,r3,r4,r5,r6,r7,rfl⟩
   rw[← List.map_flatMap,List.nil_append,show(List.flatMap _ [1,2,3])=ZD r from rfl]
   simp
   rw[U9 hq']
   exact Yr q
inductive ZiB:List D→D→Prop
 | mk (r:Room) (st:List Str) (h:Zv r) (h2:st.length≤1000):ZiB [Zj r,Zd st] (.int (Zbr r st))
end Sw
namespace Sw
open PySem
theorem ZfW {α β:Type}[DecidableEq β]{f:α→β}{s all:List α}(h:List.Sublist s all):(all.map f).Nodup→all.filter (fun x=>decide (f x∈s.map f))=s:=by
 induction h with
 | slnil=>intro _;rfl
 | @cons l1 l2 a h ih=>
   intro hn
   rw[List.map_cons,List.nodup_cons] at hn
   rw[List.filter_cons,if_neg]
   · exact ih hn.2
   · simp only[decide_eq_true_eq]
     intro hm
     obtain⟨x,hx,e⟩:=List.mem_map.mp hm
     exact hn.1 (List.mem_map.mpr ⟨x,h.subset hx,e⟩)
 | @cons_cons l1 l2 a h ih=>
   intro hn
   rw[List.map_cons,List.nodup_cons] at hn
   rw[List.filter_cons,if_pos (by simp)]
   congr 1
   have:l2.filter (fun x=>decide (f x∈(a :: l1).map f))=l2.filter (fun x=>decide (f x∈l1.map f)):=by
    apply List.filter_congr
    intro x hx
    have hne:f x≠f a:=fun e=>hn.1 (List.mem_map.mpr ⟨x,hx,e⟩)
    simp[hne]
   rw[this]
   exact ih hn.2
theorem Zes {α β:Type}{p:β→Bool}{f:α→List β}(xs:List α):(xs.flatMap fun x=>(f x).filter p)=(xs.flatMap f).filter p:=by
 induction xs with
 | nil=>rfl
 | cons x r ih=>rw[List.flatMap_cons,List.flatMap_cons,List.filter_append,ih]
def WU (r:Room):List Tab:=r.rows.flatMap fun l=>l
theorem ZbX (r:Room):namesOf r.rows=(WU r).map (·.1):=by
 unfold namesOf WU;rw[List.map_flatMap]
theorem Zg5 (r:Room)(st:List Str):Vr r st=(WU r).filter fun t=>decide (t.1∈st):=by
 unfold Vr WU
 exact Zes (f:=fun l=>l) r.rows
theorem Zft {r:Room}{l:List Tab}{i m:Nat}(hl:l∈r.rows):List.Sublist (runOf l i m) (WU r):=by
 unfold runOf
 refine((List.take_sublist _ _).trans (List.drop_sublist _ _)).trans ?_
 unfold WU
 rw[List.flatMap_id']
 exact List.sublist_flatten_of_mem hl
theorem Zg6 {r:Room}(h:Zv r){l:List Tab}{i m:Nat}(hl:l∈r.rows):Vr r ((runOf l i m).map (·.1))=runOf l i m:=by
 rw[Zg5]
 exact ZfW (f:=fun t:Tab=>t.1) (Zft hl) (by rw[← ZbX];exact h.nodup)
theorem ZaO {r:Room}{st:List Str}:st∈ZD r↔∃m l i,(m=1∨m=2∨m=3)∧l∈r.rows∧i+m≤l.length∧0<together (runOf l i m) r.lost∧st=(runOf l i m).map (·.1):=by
 unfold ZD
 simp only[List.mem_flatMap,List.mem_range]
 constructor
 · rintro⟨m,hm,l,hl,i,hi,hs⟩
   unfold standAt at hs
   split at hs
   · next hp=>
     have hm:m=1∨m=2∨m=3:=by simpa using hm
     exact⟨m,l,i,hm,hl,by omega,hp,by simpa using hs⟩
   · cases hs
 · rintro⟨m,l,i,hm,hl,hi,hp,rfl⟩
   refine⟨m,by simpa using hm,l,hl,i,by omega,?_⟩
   unfold standAt
   rw[if_pos hp];simp
theorem Zlz {l:List Tab}{i m:Nat}(h:i+m≤l.length):(runOf l i m).length=m:=by unfold runOf;rw[List.length_take,List.length_drop];omega
theorem Zfs {l:List Tab}{i m:Nat}{t:Tab}(h:t∈runOf l i m):t∈l:=List.mem_of_mem_drop (List.mem_of_mem_take h)
theorem sum_le {ts:List Tab}{n:Int}(hn:0≤n)(h:∀t∈ts,t.2≤n):(ts.map (·.2)).sum≤n * ts.length:=by
 induction ts with
 | nil=>simp
 | cons t r ih=>
   have h1:=h t (by simp)
   have h2:=ih fun x hx=>h x (List.mem_cons_of_mem _ hx)
   rw[List.map_cons,List.sum_cons,List.length_cons,Int.natCast_add,Int.mul_add]
   omega
theorem Q1 {r:Room}(h:Zv r){st:List Str}(hs:st∈ZD r):1≤st.length∧st.length≤3∧(∀x∈st,x∈namesOf r.rows)∧st.Nodup∧Zbr r st=placesOf r st∧1≤placesOf r st∧placesOf r st≤60:=by
 obtain⟨m,l,i,hm,hl,hi,hp,rfl⟩:=ZaO.mp hs
 have hr:=Zlz hi
 have hf:=Zg6 h (i:=i) (m:=m) hl
 refine⟨by rw[List.length_map,hr];omega,by rw[List.length_map,hr];omega,?_,?_,?_,?_,?_⟩
 · intro x hx
   obtain⟨t,ht,rfl⟩:=List.mem_map.mp hx
   unfold namesOf
   exact List.mem_flatMap.mpr ⟨l,hl,List.mem_map.mpr ⟨t,Zfs ht,rfl⟩⟩
 · have hsub:=(Zft (i:=i) (m:=m) hl).map (·.1)
   rw[← ZbX] at hsub
   exact hsub.nodup h.nodup
 · unfold Zbr placesOf together
   rw[hf,List.length_map]
 · unfold placesOf;rw[hf];omega
 · unfold placesOf together
   rw[hf,hr]
   have:=sum_le (ts:=runOf l i m) (n:=20) (by omega) fun t ht=>(h.place l hl t (Zfs ht)).2
   rw[hr] at this
   have h0:=h.lost0
   have h1:0≤r.lost * ((m:Int) - 1):=Int.mul_nonneg h0 (by omega)
   omega
theorem Zgy {r:Room}(h:Zv r):(ZD r).length≤84:=by
 unfold ZD
 have:=Qq (f:=fun m:Nat=>r.rows.flatMap fun l=>(List.range (l.length+1 - m)).flatMap fun i=>standAt r.lost l m i) (xs:=[1,2,3]) (n:=28) fun m _=>Vj r h m
 simpa using this
theorem Wq (st:List Str):(Zd st).nb=true:=by
 unfold Zd
 rw[D.nb,Vz]
 intro d hd
 obtain⟨x,_,rfl⟩:=List.mem_map.mp hd
 rfl
theorem ZhH (sts:List (List Str)):(D.lst (sts.map Zd)).nb=true:=by
 rw[D.nb,Vz]
 intro d hd
 obtain⟨x,_,rfl⟩:=List.mem_map.mp hd
 exact Wq x
theorem XG (st:List Str):(Zd st).toP.depth≤1:=by
 unfold Zd
 rw[D.toP,PyData.depth]
 have:=XE (n:=0) (ds:=st.map .str) fun d hd=>by
  obtain⟨x,_,rfl⟩:=List.mem_map.mp hd
  simp[D.toP,PyData.depth]
 omega
theorem ZcX (sts:List (List Str)):(D.lst (sts.map Zd)).toP.depth≤2:=by
 rw[D.toP,PyData.depth]
 have:=XE (n:=1) (ds:=sts.map Zd) fun d hd=>by
  obtain⟨x,_,rfl⟩:=List.mem_map.mp hd
  exact XG x
 omega
inductive Zkn:List D→List D→Prop
 | mk (r:Room) (h:Zv r):Zkn [Zj r] ((ZD r).map Zd)
end Sw
namespace Sw
open PySem
def Dat:D→Prop
 | .scr _=>False
 | .obj _=>False
 | .str x=>x.length≤1000000
 | _=>True
def ZaU (d:D)(a b:Int):Bool:=match d with
 | .int i=>decide (a≤i) && decide (i≤b)
 | _=>false
inductive NumR:List D→D→Prop
 | mk (d:D) (a b:Int) (h:Dat d):NumR [d,.int a,.int b] (.bl (ZaU d a b))
@[simp] theorem Ztk {S:Za}{t:Ty}{ks:List L2.Key}{ds:List D}:isaD t S (.dic ks ds)=some (t == .dict):=rfl
def lowB (c:Nat):Bool:=decide (c∈abcS.cps.toList)
def isName:D→Bool
 | .str x=>decide (1≤x.length) && decide (x.length≤8) && x.cps.toList.all lowB
 | _=>false
inductive ZoB:List D→D→Prop
 | mk (d:D) (h:Dat d):ZoB [d] (.bl (isName d))
end Sw
namespace Sw
open PySem
structure ZO where
 nm:Str
 g:Int
 b:Int
 s:Int
structure Shut where
 t:Str
 b:Int
 s:Int
structure Seat where
 nm:Str
 st:List Str
structure Zr where
 hours:Int
 shuts:List Shut
 parties:List ZO
 seats:List Seat
def ZZ (p:ZO):D:=.tup [.str p.nm,.int p.g,.int p.b,.int p.s]
def Wz (x:Shut):D:=.tup [.str x.t,.int x.b,.int x.s]
def YJ (x:Seat):D:=.tup [.str x.nm,Zd x.st]
def ZL (sh:Zr):D:=.tup [.int sh.hours,.tup (sh.shuts.map Wz),.tup (sh.parties.map ZZ),.tup (sh.seats.map YJ)]
def Xg (b s:Int):D:=.tup [.int b,.int s]
def WB (h b s:Int):Prop:=0≤b∧1≤s∧b+s≤h
structure Yw (r:Room)(sh:Zr):Prop where
 h1:1≤sh.hours
 h12:sh.hours≤12
 pmany:sh.parties.length≤8
 pnames:(sh.parties.map (·.nm)).Nodup
 pname:∀p∈sh.parties,Wd p.nm
 pguest:∀p∈sh.parties,1≤p.g∧p.g≤60
 pspan:∀p∈sh.parties,WB sh.hours p.b p.s
 smany:sh.shuts.length≤12
 stab:∀x∈sh.shuts,x.t∈namesOf r.rows
 sspan:∀x∈sh.shuts,WB sh.hours x.b x.s
 anames:(sh.seats.map (·.nm)).Nodup
 ain:∀x∈sh.seats,x.nm∈sh.parties.map (·.nm)
 astand:∀x∈sh.seats,x.st∈ZD r
def W7 (a b c d:Int):Bool:=decide (a<c+d) && decide (c<a+b)
def Xb (sh:Zr)(nm:Str):Option ZO:=sh.parties.find? fun p=>decide (p.nm=nm)
def Zh1 (sh:Zr)(nm:Str):Option (List Str):=(sh.seats.find? fun x=>decide (x.nm=nm)).map (·.st)
def ZcC (a b:List Str):Bool:=a.any fun x=>decide (x∈b)
def Zj4 (sh:Zr)(st:List Str)(b s:Int):Bool:=sh.shuts.any fun x=>decide (x.t∈st) && W7 x.b x.s b s
def satC (sh:Zr)(nm:Str)(st:List Str)(b s:Int)(x:Seat):Bool:=!decide (x.nm=nm) && (ZcC x.st st && (match Xb sh x.nm with | some q=>W7 q.b q.s b s | none=>false))
def Zj8 (sh:Zr)(nm:Str)(st:List Str)(b s:Int):Bool:=sh.seats.any (satC sh nm st b s)
def ZpH (sh:Zr)(nm:Str)(st:List Str):Bool:=match Zh1 sh nm with | some x=>decide (x=st) | none=>true
def ZaV (r:Room)(sh:Zr)(p:ZO)(st:List Str):Bool:=!decide (placesOf r st<p.g) && (ZpH sh p.nm st && (!Zj4 sh st p.b p.s && !Zj8 sh p.nm st p.b p.s))
end Sw
namespace Sw
open PySem
inductive Zl2:List D→D→Prop
 | mk (a b c d:Int):Zl2 [Xg a b,Xg c d] (.bl (W7 a b c d))
inductive ZiA:List D→D→Prop
 | mk (sh:Zr) (nm:Str) (p:ZO) (h:Xb sh nm=some p) (hl:sh.parties.length≤1000):ZiA [ZL sh,.str nm] (ZZ p)
inductive Zkm:List D→D→Prop
 | mk (sh:Zr) (nm:Str):Zkm [ZL sh,.str nm] (match Zh1 sh nm with | some st=>Zd st | none=>.non)
@[simp] theorem Zxv {x:D}{r:List D}:cutD (x :: r) (some 1) none=r:=by rw[X8 _ (by decide)];rfl
@[simp] theorem Zxw {x y:D}{r:List D}:cutD (x :: y :: r) (some 2) none=r:=by rw[X8 _ (by decide)];rfl
@[simp] theorem Ztg {x y:D}{r:List D}:cutD (x :: y :: r) none (some 2)=[x,y]:=by rw[UH _ (by decide)];rfl
inductive OutR:List D→D→Prop
 | mk (sh:Zr) (st:List Str) (b s:Int) (h:sh.shuts.length≤1000):OutR [ZL sh,Zd st,Xg b s] (.bl (Zj4 sh st b s))
inductive SatR:List D→D→Prop
 | mk (sh:Zr) (nm:Str) (st:List Str) (b s:Int) (h1:∀x∈sh.seats,x.nm∈sh.parties.map (·.nm)) (h2:∀x∈sh.seats,x.st.length≤1000) (h3:sh.parties.length≤1000):SatR [ZL sh,.str nm,Zd st,Xg b s] (.bl (Zj8 sh nm st b s))
theorem ZiW {S:Za}{a b:List Str}:eqD S (Zd a) (Zd b)=some (decide (a=b)):=by
 rw[ZfU (Wq a) (Wq b) (.inl (by have:=XG a;omega))]
 congr 1
 rw[decide_eq_decide]
 constructor
 · intro h
   unfold Zd at h
   injection h with h
   have hinj:Function.Injective D.str:=fun x y e=>by injection e
   exact(List.map_inj_right fun x y e=>by injection e).mp h
 · rintro rfl;rfl
structure Zbc (r:Room)(sh:Zr):Prop where
 room:Zv r
 p:sh.parties.length≤1000
 s:sh.shuts.length≤1000
 a1:∀x∈sh.seats,x.nm∈sh.parties.map (·.nm)
 a2:∀x∈sh.seats,x.st.length≤1000
inductive ZoC:List D→D→Prop
 | mk (r:Room) (sh:Zr) (nm:Str) (p:ZO) (st:List Str) (h:Zbc r sh) (hp:Xb sh nm=some p):ZoC [Zj r,ZL sh,.str nm,Zd st] (.bl (ZaV r sh p st))
inductive Zl1:List D→D→Prop
 | mk (r:Room) (sh:Zr) (nm:Str) (p:ZO) (h:Zbc r sh) (hp:Xb sh nm=some p):Zl1 [Zj r,ZL sh,.str nm] (.lst (((ZD r).filter (ZaV r sh p)).map Zd))
inductive Zl0:List D→List D→Prop
 | mk (r:Room) (sh:Zr) (nm:Str) (p:ZO) (h:Zbc r sh) (hp:Xb sh nm=some p):Zl0 [Zj r,ZL sh,.str nm] (((ZD r).filter (ZaV r sh p)).map Zd)
end Sw
namespace Sw
open PySem
inductive ZoF:List D→D→Prop
 | mk (h b s:Int) (ok:WB h b s):ZoF [.int h] (Xg b s)
inductive ZlX:List D→D→Prop
 | mk (a b:List Str) (h:a.length≤1000):ZlX [Zd a,Zd b] (.bl (ZcC a b))
theorem Zdw (ys:List Str):D.nbs (ys.map .str)=true:=Vz.mpr fun d hd=>by obtain⟨x,_,rfl⟩:=List.mem_map.mp hd;rfl
inductive Zki:List D→D→Prop
 | mk (a b c d:Int) (h1:0≤a) (h2:1≤b) (h3:a+b≤1000) (h4:0≤c) (h5:1≤d) (h6:c+d≤1000):Zki [Xg a b,Xg c d] (.bl (W7 a b c d))
end Sw
namespace Sw
open PySem
def leD {α:Type}(e:α→D):α→α→Bool:=PySem.W.dataLe false fun x=>(e x).toP
def Wi {α:Type}(e:α→D)(xs:List α):List α:=xs.mergeSort (leD e)
theorem Zh6 {α:Type}(e:α→D)(xs:List α):Xf (xs.map e)=(Wi e xs).map e:=
 (List.map_mergeSort (f:=e) (r:=leD e) (s:=PySem.W.dataLe false D.toP) fun a _ b _=>rfl).symm
theorem ZhB {α:Type}{e:α→D}{xs:List α}{x:α}:x∈Wi e xs↔x∈xs:=List.mem_mergeSort
theorem Ub {α:Type}{e:α→D}{xs:List α}:(Wi e xs).Perm xs:=List.mergeSort_perm xs _
theorem Zhs {α:Type}{e:α→D}{xs:List α}:(Wi e xs).length=xs.length:=List.length_mergeSort _
theorem ZjE {α:Type}{S:Za}(e:α→D)(xs:List α)(h1:∀x∈xs,(e x).pure=true)(h2:∀x∈xs,∀y∈xs,PySem.W.alike (e x).toP (e y).toP=true)(h3:(∀x∈xs,Za5 (e x)=true)∨(∀x∈xs,ZaS (e x)=true))(h4:∀x∈xs,(e x).toP.depth≤20) :
  biD .sorted S [.lst (xs.map e)]=some (.lst ((Wi e xs).map e)):=by
 have ok:Wg (xs.map e)=true:=by
  unfold Wg
  simp only[Bool.and_eq_true,Bool.or_eq_true,List.all_eq_true,decide_eq_true_eq,List.mem_map,forall_exists_index,and_imp,forall_apply_eq_imp_iff₂]
  exact⟨⟨⟨Wy.mpr fun d hd=>by obtain⟨x,hx,rfl⟩:=List.mem_map.mp hd;exact h1 x hx,h2⟩,h3⟩,h4⟩
 rw[show biD .sorted=Yx from rfl]
 unfold Yx
 dsimp only[seqD,peel]
 rw[if_pos ok,Zh6]
def Wh (ps:List ZO):List ZO:=Wi ZZ ps
structure ZgJ (hours:Int)(ps:List ZO):Prop where
 names:(ps.map (·.nm)).Nodup
 name:∀p∈ps,Wd p.nm
 guest:∀p∈ps,1≤p.g∧p.g≤60
 span:∀p∈ps,WB hours p.b p.s
 srt:∃xs,ps=Wh xs
inductive Ziz:List D→D→Prop
 | mk (m h:Int) (ps:List ZO) (hl:(ps.length:Int)=m) (ok:ZgJ h ps):Ziz [.int m,.int h] (.tup (ps.map ZZ))
inductive ZcM:List D→D→Prop
 | mk (r:Room) (m h:Int) (xs:List Shut) (hl:(xs.length:Int)=m) (ht:∀x∈xs,x.t∈namesOf r.rows) (hs:∀x∈xs,WB h x.b x.s):ZcM [Zj r,.int m,.int h] (.tup (xs.map Wz))
theorem map_inj {α β:Type}{f:α→β}(hf:∀a b,f a=f b→a=b){xs ys:List α}(h:xs.map f=ys.map f):xs=ys:=(List.map_inj_right fun a b e=>hf a b e).mp h
theorem ZjJ (a b:Tab)(h:tabD a=tabD b):a=b:=by
 unfold tabD at h
 injection h with h
 injection h with h1 h2
 injection h2 with h2
 injection h1 with h1
 injection h2 with h2
 exact Prod.ext h1 h2
theorem Zhu (a b:List Tab)(h:ZF a=ZF b):a=b:=by
 unfold ZF at h
 injection h with h
 exact map_inj ZjJ h
theorem U6 (a b:Room)(h:Zj a=Zj b):a=b:=by
 unfold Zj at h
 injection h with h
 injection h with h1 h2
 injection h2 with h2
 injection h1 with h1
 injection h2 with h2
 have:=map_inj Zhu h1
 cases a;cases b;simp_all
theorem ZcM.inv {r:Room}{m h:Int}{d:D}(H:ZcM [Zj r,.int m,.int h] d):∃xs:List Shut,d=.tup (xs.map Wz)∧(xs.length:Int)=m∧(∀x∈xs,x.t∈namesOf r.rows)∧∀x∈xs,WB h x.b x.s:=by
 generalize e:[Zj r,D.int m,D.int h]=as at H
 cases H with
 | mk r' m' h' xs hl ht hs=>
   injection e with e1 e2
   injection e2 with e2 e3
   injection e3 with e3 _
   injection e2 with e2
   injection e3 with e3
   have:=U6 _ _ e1
   subst this e2 e3
   exact⟨xs,rfl,hl,ht,hs⟩
end Sw
namespace Sw
open PySem
theorem Zgz {r:Room}(h:Zv r):1≤(ZD r).length:=by
 obtain⟨l,hl⟩:∃l,l∈r.rows:=by
  have:=h.many
  generalize r.rows=rows at this
  cases rows with
  | nil=>simp at this
  | cons l t=>exact⟨l,by simp⟩
 have h1:=h.row1 l hl
 obtain⟨t,ht⟩:∃t,l[0]?=some t:=⟨l[0],List.getElem?_eq_getElem (by omega)⟩
 have hrun:runOf l 0 1=[t]:=by
  unfold runOf
  rw[List.drop_zero]
  cases l with
  | nil=>simp at h1
  | cons a r=>simp at ht;simp[ht]
 have hp:=h.place l hl t (List.mem_of_getElem? ht)
 have:[t.1]∈ZD r:=ZaO.mpr ⟨1,l,0,.inl rfl,hl,by omega,by rw[hrun];unfold together;simp;omega,by rw[hrun];rfl⟩
 exact List.length_pos_of_mem this
inductive UC:List D→D→Prop
 | mk (r:Room) (m h:Int) (sh:Zr) (ok:Yw r sh) (hh:sh.hours=h) (hm:(sh.parties.length:Int)≤m) (srt:∃xs,sh.parties=Wh xs) (sub:List.Sublist (sh.seats.map (·.nm)) (sh.parties.map (·.nm))):UC [Zj r,.int m,.int h] (ZL sh)
theorem UC.inv {r:Room}{m h:Int}{d:D}(H:UC [Zj r,.int m,.int h] d):∃sh:Zr,d=ZL sh∧Yw r sh∧sh.hours=h∧(sh.parties.length:Int)≤m∧(∃xs,sh.parties=Wh xs)∧List.Sublist (sh.seats.map (·.nm)) (sh.parties.map (·.nm)):=by
 generalize e:[Zj r,D.int m,D.int h]=as at H
 cases H with
 | mk r' m' h' sh ok hh hm srt sub=>
   injection e with e1 e2
   injection e2 with e2 e3
   injection e3 with e3 _
   injection e2 with e2
   injection e3 with e3
   have:=U6 _ _ e1
   subst this e2 e3
   exact⟨sh,rfl,ok,hh,hm,srt,sub⟩
inductive ZlY:List D→D→Prop
 | mk (r:Room) (sh:Zr) (p:ZO) (st:List Str) (hr:Zv r) (h:Yw r sh) (hp:p∈sh.parties) (hst:st∈ZD r):ZlY [Zj r,ZL sh,ZZ p,Zd st] (.bl (ZaV r sh p st))
end Sw
namespace Sw
open PySem
structure Rw where
 nm:Str
 st:List Str
 g:Int
 b:Int
 s:Int
def rwD (w:Rw):D:=.tup [.str w.nm,Zd w.st,.int w.g,Xg w.b w.s]
def rwP (w:Rw):ZO:=⟨w.nm,w.g,w.b,w.s⟩
def rwS (w:Rw):Seat:=⟨w.nm,w.st⟩
def ZoN (w v:Rw):Bool:=ZcC w.st v.st && W7 w.b w.s v.b v.s
def ZjB (x:Shut)(w:Rw):Bool:=decide (x.t∈w.st) && W7 w.b w.s x.b x.s
structure ZoE (r:Room)(h:Int)(ws:List Rw):Prop where
 stand:∀w∈ws,w.st∈ZD r
 guest:∀w∈ws,1≤w.g∧w.g≤placesOf r w.st
 span:∀w∈ws,WB h w.b w.s
 apart:ws.Pairwise fun w v=>ZoN w v=false
structure ZeV (r:Room)(h:Int)(sh:Zr)(ws:List Rw):Prop where
 ok:Yw r sh
 hh:sh.hours=h
 rws:ZoE r h ws
 par:sh.parties=ws.map rwP
 shuts:∀x∈sh.shuts,∀w∈ws,ZjB x w=false
 seats:List.Sublist sh.seats (ws.map rwS)
 srt:∃xs,ws=Wi rwD xs
inductive ZcK:List D→D→Prop
 | mk (r:Room) (m h:Int) (sh:Zr) (ws:List Rw) (ok:ZeV r h sh ws) (hm:(ws.length:Int)≤m):ZcK [Zj r,.int m,.int h] (.tup [ZL sh,.tup ((ws.map rwS).map YJ)])
theorem ZcK.inv {r:Room}{m h:Int}{d:D}(H:ZcK [Zj r,.int m,.int h] d):∃sh ws,d=.tup [ZL sh,.tup ((ws.map rwS).map YJ)]∧ZeV r h sh ws∧(ws.length:Int)≤m:=by
 generalize e:[Zj r,D.int m,D.int h]=as at H
 cases H with
 | mk r' m' h' sh ws ok hm=>
   injection e with e1 e2
   injection e2 with e2 e3
   injection e3 with e3 _
   injection e2 with e2
   injection e3 with e3
   have:=U6 _ _ e1
   subst this e2 e3
   exact⟨sh,ws,rfl,ok,hm⟩
end Sw
namespace Sw
open PySem
end Sw
namespace Sw
open PySem
@[simp] theorem ZxA {S:Za}{q:Addr}{ds:List D}{t:Ty}:isaD t (sput S q (.lst ds)) (.obj q)=some (t == .list):=by unfold isaD;dsimp only;rw[Zq]
theorem Zqc {S:Za}{a b:List (List Str)}(h:a=b):eqD S (.lst (a.map Zd)) (.lst (b.map Zd))=some true:=by
 subst h
 exact ZfV (ZhH a) (by have:=ZcX a;omega)
theorem Za2 (a b:List Str)(h:Zd a=Zd b):a=b:=by
 unfold Zd at h
 injection h with h
 exact map_inj (fun x y e=>by injection e) h
theorem Zhb {S:Za}{st:List Str}{sts:List (List Str)}:inD S (Zd st) (.lst (sts.map Zd))=some (decide (st∈sts)):=by
 rw[ZcA (ys:=sts.map Zd) rfl rfl (fun _ h=>by cases h) (Wq st) (fun y hy=>by obtain⟨x,_,rfl⟩:=List.mem_map.mp hy;exact Wq x) (by have:=XG st;omega)]
 congr 1
 rw[decide_eq_decide,List.mem_map]
 constructor
 · rintro⟨x,hx,e⟩;rw[← Za2 _ _ e];exact hx
 · intro h;exact⟨st,h,rfl⟩
end Sw
namespace Sw
open PySem
theorem Zv.lost {r:Room}(h:Zv r){x:Int}(h0:0≤x)(h4:x≤4):Zv ⟨r.rows,x⟩:=⟨h.many,h.few,h.row1,h.row6,h.tabs,h.nodup,h.names,h.place,h0,h4⟩
theorem Yw.room {r r':Room}{sh:Zr}(h:Yw r sh)(e:namesOf r'.rows=namesOf r.rows)(hs:∀x∈sh.seats,x.st∈ZD r'):Yw r' sh:=
 ⟨h.h1,h.h12,h.pmany,h.pnames,h.pname,h.pguest,h.pspan,h.smany,fun x hx=>by rw[e];exact h.stab x hx,h.sspan,h.anames,h.ain,hs⟩
end Sw
namespace Sw
open PySem
def E1_is_stand:M:=
    .comp .it (.cons (.v 1) .nil) [2] (.nm 2) .nil (.isa .str (.v 2))
def X4:Cs:=
    (.cons (.ifs (.or (.not (.isa .tuple (.v 1))) (.not (.bi .all (.cons E1_is_stand .nil)))) (.cons (.ret (.k (.bl false)))
    .nil) .nil)
    (.cons (.ret (.cmp .In (.v 1) (.call "stands_of" (.cons (.v 0) .nil))))
    .nil))
mutual
def D.deep:D→Bool
 | .scr _=>false
 | .obj _=>false
 | .str x=>decide (x.length≤1000000)
 | .tup ds=>D.deeps ds && decide (ds.length≤1000000)
 | .lst ds=>D.deeps ds && decide (ds.length≤1000000)
 | _=>true
def D.deeps:List D→Bool
 | []=>true
 | d :: r=>D.deep d && D.deeps r
end
theorem ZbK:∀ {ds:List D},D.deeps ds=true↔∀d∈ds,d.deep=true
 | []=>by simp[D.deeps]
 | d :: r=>by rw[D.deeps,Bool.and_eq_true,ZbK (ds:=r)];simp
theorem ZiP {ds:List D}(h:(D.tup ds).deep=true):(∀d∈ds,d.deep=true)∧ds.length≤1000000:=by
 rw[D.deep,Bool.and_eq_true,ZbK,decide_eq_true_eq] at h
 exact h
def ZpU (d:D)(m:Int):Bool:=match d with
 | .tup ds=>decide ((ds.length:Int)=m)
 | _=>false
def ZdY (h:Int)(b s:D):Bool:=ZaU b 0 (h - 1) && (ZaU s 1 h && (match b,s with
 | .int b,.int s=>decide (b+s≤h)
 | _,_=>false))
def YL (r:Room):D→Bool
 | .tup ds=>match Yi ds with
   | some st=>decide (st∈ZD r)
   | none=>false
 | _=>false
def Zj9 (r:Room)(h:Int):D→Bool
 | .tup [.str t,b,s]=>decide (t∈namesOf r.rows) && ZdY h b s
 | _=>false
def ZhO (h:Int):D→Bool
 | .tup [n,g,b,s]=>isName n && (ZaU g 1 60 && ZdY h b s)
 | _=>false
def Zh0 (r:Room):D→Bool
 | .tup [n,st]=>isName n && YL r st
 | _=>false
inductive Zl4:List D→D→Prop
 | mk (d:D) (m:Int) (h:Dat d):Zl4 [d,.int m] (.bl (ZpU d m))
inductive Zl3:List D→D→Prop
 | mk (h:Int) (b s:D) (hb:Dat b) (hs:Dat s):Zl3 [.int h,b,s] (.bl (ZdY h b s))
inductive VF:List D→D→Prop
 | mk (r:Room) (d:D) (hr:Zv r) (h:d.deep=true):VF [Zj r,d] (.bl (YL r d))
def Zb7:ZA:=spR VF
def WE:D→Bool
 | .str _=>true
 | _=>false
theorem Za4:∀ {ds:List D},ds.all WE=true→∃st,Yi ds=some st∧ds=st.map .str
 | [],_=>⟨[],rfl,rfl⟩
 | d :: r,h=>by
   rw[List.all_cons,Bool.and_eq_true] at h
   obtain⟨st,e1,e2⟩:=Za4 h.2
   cases d with
   | str x=>exact⟨x :: st,by rw[Yi,e1];rfl,by rw[e2];rfl⟩
   | _=>cases h.1
theorem Za3:∀ {ds:List D},ds.all WE=false→Yi ds=none
 | [],h=>by simp at h
 | d :: r,h=>by
   cases d with
   | str x=>
     rw[List.all_cons] at h
     have:r.all WE=false:=by simpa [WE] using h
     rw[Yi,Za3 this];rfl
   | _=>rfl
theorem XJ {Γ:Gam}(h1:Γ.fn "stands_of" W8):FOk Γ 3 2 X4 Zb7:=by
 rintro _ S Q ⟨_,⟨r,d,hr,h⟩,q⟩
 refine⟨rfl,?_⟩
 have q:=Yr q
 unfold X4
 cases d with
 | tup ds=>
   obtain⟨hd,hl⟩:=ZiP h
   simp
   unfold E1_is_stand
   simp
   refine Qj (fun x=>.bl (WE x)) ds [] (by simp;exact Zk (by omega)) ?_ ?_
   · intro x hx acc K ha hK
     have hx:=hd x hx
     have:isaD .str S x=some (WE x):=by cases x <;> first | rfl | (simp[D.deep] at hx)
     rw[this]
     exact⟨ha,hK⟩
   · rw[List.nil_append,ZiE]
     unfold YL at q
     dsimp only at q
     simp
     by_cases c:ds.all WE=true
     · obtain⟨st,e1,e2⟩:=Za4 c
       rw[e1] at q
       rw[if_pos (by simpa using c)]
       refine ZoL h1 (.mk r hr) ?_
       rw[e2,show D.tup (st.map .str)=Zd st from rfl,Zhb]
       exact q
     · have c':ds.all WE=false:=by simpa using c
       rw[Za3 c'] at q
       rw[if_neg (by simpa using c)]
       exact q
 | scr _=>simp[D.deep] at h
 | obj _=>simp[D.deep] at h
 | _=>simp;simp[YL] at q;exact q
inductive Zkh:List D→D→Prop
 | mk (r:Room) (h:Int) (d:D) (hr:Zv r) (hd:d.deep=true):Zkh [Zj r,.int h,d] (.bl (Zj9 r h d))
inductive Ziw:List D→D→Prop
 | mk (h:Int) (d:D) (hd:d.deep=true):Ziw [.int h,d] (.bl (ZhO h d))
inductive Zkg:List D→D→Prop
 | mk (r:Room) (d:D) (hr:Zv r) (hd:d.deep=true):Zkg [Zj r,d] (.bl (Zh0 r d))
def ZcF:List Str→Bool
 | a :: b :: r=>YZ a b && ZcF (b :: r)
 | _=>true
def Zj7 (xs:List (Str×List D)):List D:=xs.map fun x=>.tup (.str x.1 :: x.2)
inductive ZoD:List D→D→Prop
 | mk (xs:List (Str×List D)) (hl:xs.length≤500000):ZoD [.tup (Zj7 xs)] (.bl (ZcF (xs.map (·.1))))
end Sw
namespace Sw
open PySem
def ZmP:D→Str
 | .tup (.str x :: _)=>x
 | _=>Str.empty
def ZaQ (ds:List D):List Str:=ds.map ZmP
def Zh4 (r:Room)(h:Int):D→Bool
 | .tup ds=>decide (ds.length≤12) && ds.all (Zj9 r h)
 | _=>false
def Zdz (h:Int):D→Bool
 | .tup ds=>decide (ds.length≤8) && (ds.all (ZhO h) && ZcF (ZaQ ds))
 | _=>false
def Zh2 (r:Room)(pn:List Str):D→Bool
 | .tup ds=>ds.all (Zh0 r) && (ZcF (ZaQ ds) && (ZaQ ds).all fun x=>decide (x∈pn))
 | _=>false
def Znu:D→List Str
 | .tup ds=>ZaQ ds
 | _=>[]
def ZnT (r:Room):D→Bool
 | .tup [.int h,s,p,a]=>ZaU (.int h) 1 12 && (Zh4 r h s && (Zdz h p && Zh2 r (Znu p) a))
 | _=>false
inductive ZgF:List D→D→Prop
 | mk (r:Room) (h:Int) (d:D) (hr:Zv r) (hd:d.deep=true):ZgF [Zj r,.int h,d] (.bl (Zh4 r h d))
inductive Zeb:List D→D→Prop
 | mk (h:Int) (d:D) (hd:d.deep=true):Zeb [.int h,d] (.bl (Zdz h d))
inductive ZgE:List D→D→Prop
 | mk (r:Room) (ps:List (Str×List D)) (d:D) (hr:Zv r) (hp:ps.length≤500000) (hd:d.deep=true) (hl:∀ds,d=.tup ds→ds.length≤500000):ZgE [Zj r,.tup (Zj7 ps),d] (.bl (Zh2 r (ps.map (·.1)) d))
inductive Zix:List D→D→Prop
 | mk (r:Room) (d:D) (hr:Zv r) (hd:d.deep=true) (hl:∀h s p ds,d=.tup [h,s,p,.tup ds]→ds.length≤500000):Zix [Zj r,d] (.bl (ZnT r d))
inductive ZgK:List D→D→Prop
 | mk (sh:Zr) (nm:Str) (st:List Str) (h:sh.seats.length≤1000):ZgK [ZL sh,.str nm,Zd st] (ZL ⟨sh.hours,sh.shuts,sh.parties,Wi YJ (sh.seats++[(⟨nm,st⟩:Seat)])⟩)
inductive ZfL:List D→D→Prop
 | mk (sh:Zr) (p:ZO) (h:sh.parties.length≤1000):ZfL [ZL sh,ZZ p] (ZL ⟨sh.hours,sh.shuts,Wh (sh.parties++[p]),sh.seats⟩)
def Zpr (sh:Zr)(nm:Str):Zr:=⟨sh.hours,sh.shuts,sh.parties.filter fun p=>!decide (p.nm=nm),sh.seats.filter fun x=>!decide (x.nm=nm)⟩
inductive Zoz:List D→D→Prop
 | mk (sh:Zr) (nm:Str) (h:sh.parties.length≤1000) (h2:sh.seats.length≤1000):Zoz [ZL sh,.str nm] (ZL (Zpr sh nm))
end Sw
namespace Sw
open PySem
theorem Zhq {α:Type}(e:α→D):PySem.W.TotalLe (leD e):=by
 unfold leD PySem.W.dataLe
 exact PySem.W.sortLe_total _ _ _
theorem Zh9 {α:Type}(e:α→D)(xs:List α):(Wi e xs).Pairwise fun a b=>leD e a b=true:=by
 have t:=Zhq e
 exact List.pairwise_mergeSort t.trans (fun a b=>by simpa using t.total a b) xs
theorem UQ {a b:Str}:YZ a b=true↔a.cps.toList<b.cps.toList:=by unfold YZ;simp
theorem Zi7 {p q:ZO}(h:p.nm≠q.nm):leD ZZ p q=!YZ q.nm p.nm:=by
 show(!PySem.W.dataLt (ZZ q).toP (ZZ p).toP)=_
 congr 1
 unfold ZZ
 simp only[D.toP,D.toPs]
 rw[PySem.W.dataLt_tuple,PySem.W.dataLt_cons (by simp[PySem.W.alike])]
 rw[if_neg (by simp[PyData.eqv];exact fun e=>h e.symm),PySem.W.dataLt_str]
 rfl
theorem Zhy {a b:Str}(h:YZ b a=false)(hn:a≠b):YZ a b=true:=by
 rw[UQ]
 have h1:¬b.cps.toList<a.cps.toList:=by rw[← UQ,h];decide
 rcases List.le_iff_lt_or_eq.mp (List.not_lt.mp h1) with h2 | h2
 · exact h2
 · exact absurd (PySem.W.str_of_cps h2) hn
theorem ZhN {α:Type}{f:α→Str}{le:α→α→Bool}(hle:∀p q,f p≠f q→le p q=!YZ (f q) (f p)){xs:List α}(h:xs.Pairwise fun a b=>le a b=true)(hn:(xs.map f).Nodup):(xs.map f).Pairwise fun a b=>YZ a b=true:=by
 rw[List.pairwise_map]
 have hn':xs.Pairwise fun a b=>f a≠f b:=by
  have:=hn
  unfold List.Nodup at this
  rwa [List.pairwise_map] at this
 refine List.Pairwise.imp₂ (R:=fun a b=>le a b=true) (S:=fun a b=>f a≠f b) (fun a b h1 h2=>?_) h hn'
 rw[hle a b h2] at h1
 exact Zhy (by simpa using h1) h2
end Sw
namespace Sw
open PySem
def upS (ys:List Str):Prop:=ys.Pairwise fun a b=>YZ a b=true
structure Zr.Up (sh:Zr):Prop where
 pu:upS (sh.parties.map (·.nm))
 su:upS (sh.seats.map (·.nm))
theorem lt_asymm {a b:Str}(h1:YZ a b=true)(h2:YZ b a=true):False:=by
 rw[UQ] at h1 h2
 exact List.lt_asymm h1 h2
theorem Zd5 {ps:List ZO}(h:(ps.map (·.nm)).Nodup):upS ((Wh ps).map (·.nm)):=by
 have hp:((Wh ps).map (·.nm)).Perm (ps.map (·.nm)):=Ub.map _
 exact ZhN (f:=fun p:ZO=>p.nm) (fun p q h=>Zi7 h) (Zh9 ZZ ps) (hp.nodup_iff.mpr h)
theorem up_eq {ps qs:List ZO}(h1:upS (ps.map (·.nm)))(h2:upS (qs.map (·.nm)))(hp:ps.Perm qs):ps=qs:=by
 unfold upS at h1 h2
 rw[List.pairwise_map] at h1 h2
 exact List.Perm.eq_of_pairwise (fun a b _ _ u v=>(lt_asymm u v).elim) h1 h2 hp
def Zf6 (sh:Zr)(p:ZO):Zr:=⟨sh.hours,sh.shuts,Wh (sh.parties++[p]),sh.seats⟩
theorem ZaR {sh:Zr}{p:ZO}(hn:(sh.parties.map (·.nm)).Nodup)(h:p.nm∉sh.parties.map (·.nm)):((sh.parties++[p]).map (·.nm)).Nodup:=by
 rw[List.map_append,List.nodup_append]
 refine⟨hn,by simp,?_⟩
 intro a ha b hb e
 rw[List.map_singleton,List.mem_singleton] at hb
 subst hb
 exact h (e▸ha)
theorem Yw.more {r:Room}{sh:Zr}{p:ZO}(h:Yw r sh)(hl:sh.parties.length≤7)(hp:p.nm∉sh.parties.map (·.nm))(hn:Wd p.nm)(hg:1≤p.g∧p.g≤60)(hs:WB sh.hours p.b p.s):Yw r (Zf6 sh p):=by
 have hm:∀q,q∈(Zf6 sh p).parties↔q∈sh.parties∨q=p:=fun q=>by
  show q∈Wh (sh.parties++[p])↔_
  unfold Wh
  rw[ZhB,List.mem_append,List.mem_singleton]
 refine⟨h.h1,h.h12,?_,?_,?_,?_,?_,h.smany,h.stab,h.sspan,h.anames,?_,h.astand⟩
 · show(Wh (sh.parties++[p])).length≤8
   unfold Wh
   rw[Zhs,List.length_append]
   simp;omega
 · exact((Ub (e:=ZZ) (xs:=sh.parties++[p])).map (·.nm)).nodup_iff.mpr (ZaR h.pnames hp)
 · intro q hq;rcases (hm q).mp hq with hq | rfl
   · exact h.pname q hq
   · exact hn
 · intro q hq;rcases (hm q).mp hq with hq | rfl
   · exact h.pguest q hq
   · exact hg
 · intro q hq;rcases (hm q).mp hq with hq | rfl
   · exact h.pspan q hq
   · exact hs
 · intro x hx
   obtain⟨q,hq,e⟩:=List.mem_map.mp (h.ain x hx)
   exact List.mem_map.mpr ⟨q,(hm q).mpr (.inl hq),e⟩
theorem Zr.Up.more {sh:Zr}{p:ZO}(hu:sh.Up)(hn:(sh.parties.map (·.nm)).Nodup)(h:p.nm∉sh.parties.map (·.nm)):(Zf6 sh p).Up:=⟨Zd5 (ZaR hn h),hu.su⟩
theorem UC.up {r:Room}{m h:Int}{d:D}(H:UC [Zj r,.int m,.int h] d):∃sh:Zr,d=ZL sh∧Yw r sh∧sh.hours=h∧(sh.parties.length:Int)≤m∧sh.Up:=by
 obtain⟨sh,e,ok,e2,hm,⟨xs,srt⟩,sub⟩:=H.inv
 have hp:upS (sh.parties.map (·.nm)):=by
  have:(xs.map (·.nm)).Nodup:=by
   have h:=ok.pnames
   rw[srt] at h
   exact((Ub (e:=ZZ) (xs:=xs)).map (·.nm)).nodup_iff.mp h
  rw[srt]
  exact Zd5 this
 exact⟨sh,e,ok,e2,hm,hp,List.Pairwise.sublist sub hp⟩
end Sw
namespace Sw
open PySem
def ZmT (r:Room)(p:ZO):D→Bool
 | .tup [.str n,st]=>decide (n=p.nm) && YL r st
 | _=>false
def ZjW (r:Room)(sh:Zr):D→Bool
 | .tup ds=>decide (ds.length=sh.parties.length) && (ds.zip sh.parties).all fun x=>ZmT r x.2 x.1
 | _=>false
inductive Zoy:List D→D→Prop
 | mk (r:Room) (sh:Zr) (d:D) (hr:Zv r) (hp:sh.parties.length≤1000) (h:d.deep=true):Zoy [Zj r,ZL sh,d] (.bl (ZjW r sh d))
def Zj5 (p q:ZO)(x y:List Str):Bool:=ZcC x y && W7 p.b p.s q.b q.s
inductive Ziv:List D→D→Prop
 | mk (sh:Zr) (x y:Seat) (p q:ZO) (hx:Xb sh x.nm=some p) (hy:Xb sh y.nm=some q) (hl:sh.parties.length≤1000) (h3:x.st.length≤1000):Ziv [ZL sh,YJ x,YJ y] (.bl (Zj5 p q x.st y.st))
def nmAt (ds:List Seat)(k:Nat):Str:=match ds[k]? with | some x=>x.nm | none=>Str.ofString ""
def ZnC (sh:Zr)(ds:List Seat)(k j:Nat):Bool:=match ds[k]?,ds[j]? with
 | some x,some y=>(match Xb sh x.nm,Xb sh y.nm with | some p,some q=>Zj5 p q x.st y.st | _,_=>false)
 | _,_=>false
def behind (n k:Nat):List Nat:=(List.range (n - (k+1))).map fun i=>k+1+i
def Zj6 (sh:Zr)(ds:List Seat)(k:Nat):Option Nat:=(behind ds.length k).find? (ZnC sh ds k)
def Zpz (sh:Zr)(ds:List Seat):Option Nat:=(List.range ds.length).find? fun k=>(Zj6 sh ds k).isSome
def ZaF (sh:Zr)(ds:List Seat):D:=match Zpz sh ds with
 | some k=>(match Zj6 sh ds k with | some j=>.tup [.str (nmAt ds k),.str (nmAt ds j)] | none=>.non)
 | none=>.non
inductive ZfG:List D→D→Prop
 | mk (sh:Zr) (ds:List Seat) (h:∀x∈ds,x.nm∈sh.parties.map (·.nm)) (hl:sh.parties.length≤1000) (hd:ds.length≤1000) (h3:∀x∈ds,x.st.length≤1000):ZfG [ZL sh,.tup (ds.map YJ)] (ZaF sh ds)
def ZlD (r:Room)(sh:Zr)(d:Seat):Bool:=match Xb sh d.nm with | some p=>!ZaV r sh p d.st | none=>false
def ZmO (r:Room)(sh:Zr)(ds:List Seat):D:=match ds.find? (ZlD r sh) with
 | some d=>.tup [.str (Str.ofString "stand"),.str d.nm]
 | none=>(match ZaF sh ds with | .tup xs=>.tup (.str (Str.ofString "over") :: xs) | d=>d)
inductive ZgH:List D→D→Prop
 | no (r:Room) (sh:Zr) (d:D) (hr:Zv r) (h:Yw r sh) (hd:d.deep=true) (hf:ZjW r sh d=false):ZgH [Zj r,ZL sh,d] (.tup [.str (Str.ofString "form")])
 | yes (r:Room) (sh:Zr) (ds:List Seat) (hr:Zv r) (h:Yw r sh) (hd:(D.tup (ds.map YJ)).deep=true) (h1:ds.map (·.nm)=sh.parties.map (·.nm)) (h2:∀x∈ds,x.st∈ZD r):ZgH [Zj r,ZL sh,.tup (ds.map YJ)] (ZmO r sh ds)
end Sw
namespace Sw
open PySem
def B_law_odd:Cs:=
    (.cons (.asg (.nm 1) (.lst (.cons (.k .non) (.cons (.k (.bl true)) (.cons (.k (.bl false)) (.cons (.k (.int 0)) (.cons (.k (.int 1)) (.cons (.neg (.k (.int 1))) (.cons (.k (.int 7)) (.cons (.k (.int 21)) (.cons (.k (.int 61)) (.cons (.bin .Pow (.k (.int 10)) (.k (.int 59))) (.cons (.neg (.bin .Pow (.k (.int 10)) (.k (.int 59)))) (.cons (.k (.str "")) (.cons (.k (.str "a")) (.cons (.k (.str "A")) (.cons (.k (.str "a1")) (.cons (.k (.str "abcdefghi")) (.cons (.k (.str "abcdefgh")) .nil)))))))))))))))))))
    (.cons (.asg (.nm 1) (.bin .Add (.v 1) (.lst (.cons (.tup .nil) (.cons (.lst .nil) (.cons (.dct [] .nil) (.cons (.tup (.cons (.k (.str "a")) .nil)) (.cons (.lst (.cons (.k (.str "a")) .nil)) (.cons (.tup (.cons (.k (.str "a")) (.cons (.k (.int 1)) .nil))) (.cons (.lst (.cons (.k (.str "a")) (.cons (.k (.int 1)) .nil))) (.cons (.tup (.cons (.k (.str "a")) (.cons (.k (.int 1)) (.cons (.k (.int 2)) .nil)))) (.cons (.tup (.cons (.tup (.cons (.k (.str "a")) (.cons (.k (.int 1)) .nil))) .nil)) (.cons (.tup (.cons (.tup .nil) .nil)) (.cons (.lst (.cons (.lst .nil) .nil)) (.cons (.dct ["a"] (.cons (.k (.int 1)) .nil)) .nil)))))))))))))))
    (.cons (.asg (.nm 1) (.bin .Add (.v 1) (.lst (.cons (.tup (.cons (.tup (.cons (.tup (.cons (.tup (.cons (.k (.str "a")) (.cons (.k (.int 1)) .nil))) .nil)) .nil)) (.cons (.k (.int 0)) .nil))) (.cons (.tup (.cons (.lst (.cons (.tup (.cons (.tup (.cons (.k (.str "a")) (.cons (.k (.int 1)) .nil))) .nil)) .nil)) (.cons (.k (.int 0)) .nil))) (.cons (.tup (.cons (.k (.str "a")) (.cons (.k (.int 1)) (.cons (.k (.int 0)) (.cons (.k (.int 1)) .nil))))) (.cons (.tup (.cons (.k (.str "a")) (.cons (.tup (.cons (.k (.str "a")) .nil)) .nil))) (.cons (.tup (.cons (.k (.int 1)) (.cons (.tup .nil) (.cons (.tup .nil) (.cons (.tup .nil) .nil))))) .nil))))))))
    (.cons (.ret (.ix (.v 1) (.call "_law_draw" (.cons (.v 0) (.cons (.k (.int 34)) .nil)))))
    .nil))))
def B_law_bent:Cs:=
    (.cons (.asg (.nm 2) (.call "_law_draw" (.cons (.v 0) (.cons (.k (.int 8)) .nil))))
    (.cons (.ifs (.isa .str (.v 1)) (.cons (.asg (.nm 4) (.k (.str " !\"#$&'()*+,-./0123456789:;<=>?@ABCDEFGHIJKLMNOPQRSTUVWXYZ[\\]^_`abcdefghijklmnopqrstuvwxyz{|}~")))
    (.cons (.asg (.nm 3) (.call "_law_draw" (.cons (.v 0) (.cons (.bin .Add (.bi .len (.cons (.v 1) .nil)) (.k (.int 1))) .nil))))
    (.cons (.asg (.nm 5) (.ix (.v 4) (.call "_law_draw" (.cons (.v 0) (.cons (.k (.int 94)) .nil)))))
    (.cons (.ret (.ix (.lst (.cons (.bin .Add (.bin .Add (.sl false true (.v 1) (.cons (.v 3) .nil)) (.v 5)) (.sl true false (.v 1) (.cons (.v 3) .nil))) (.cons (.bin .Add (.sl false true (.v 1) (.cons (.v 3) .nil)) (.sl true false (.v 1) (.cons (.bin .Add (.v 3) (.k (.int 1))) .nil))) (.cons (.bin .Add (.bin .Add (.sl false true (.v 1) (.cons (.v 3) .nil)) (.v 5)) (.sl true false (.v 1) (.cons (.bin .Add (.v 3) (.k (.int 1))) .nil))) (.cons (.bin .Add (.v 1) (.sl true false (.k (.str "abcdefgh")) (.cons (.call "_law_draw" (.cons (.v 0) (.cons (.k (.int 8)) .nil))) .nil))) .nil))))) (.bin .Mod (.v 2) (.k (.int 4)))))
    .nil)))) .nil)
    (.cons (.ifs (.and (.isa .int (.v 1)) (.not (.isa .bool (.v 1)))) (.cons (.ret (.ix (.lst (.cons (.bin .Add (.v 1) (.k (.int 1))) (.cons (.bin .Sub (.v 1) (.k (.int 1))) (.cons (.neg (.v 1)) (.cons (.k (.int 0)) (.cons (.cmp .Eq (.v 1) (.k (.int 1))) (.cons (.bi .str (.cons (.v 1) .nil)) (.cons (.bin .Add (.v 1) (.bin .Pow (.k (.int 10)) (.k (.int 20)))) (.cons (.tup (.cons (.v 1) .nil)) .nil))))))))) (.v 2)))
    .nil) .nil)
    (.cons (.ifs (.not (.isa .tuple (.v 1))) (.cons (.ret (.call "_law_odd" (.cons (.v 0) .nil)))
    .nil) .nil)
    (.cons (.asg (.nm 3) (.call "_law_draw" (.cons (.v 0) (.cons (.bin .Add (.bi .len (.cons (.v 1) .nil)) (.k (.int 1))) .nil))))
    (.cons (.ifs (.and (.cmp .Lt (.v 2) (.k (.int 4))) (.cmp .Lt (.v 3) (.bi .len (.cons (.v 1) .nil)))) (.cons (.ret (.bin .Add (.bin .Add (.sl false true (.v 1) (.cons (.v 3) .nil)) (.tup (.cons (.call "_law_bent" (.cons (.v 0) (.cons (.ix (.v 1) (.v 3)) .nil))) .nil))) (.sl true false (.v 1) (.cons (.bin .Add (.v 3) (.k (.int 1))) .nil))))
    .nil) .nil)
    (.cons (.ifs (.cmp .Eq (.v 2) (.k (.int 4))) (.cons (.ret (.bin .Add (.sl false true (.v 1) (.cons (.v 3) .nil)) (.sl true false (.v 1) (.cons (.bin .Add (.v 3) (.k (.int 1))) .nil))))
    .nil) .nil)
    (.cons (.ifs (.cmp .Eq (.v 2) (.k (.int 5))) (.cons (.ret (.bin .Add (.bin .Add (.sl false true (.v 1) (.cons (.v 3) .nil)) (.sl true true (.v 1) (.cons (.v 3) (.cons (.bin .Add (.v 3) (.k (.int 1))) .nil)))) (.sl true false (.v 1) (.cons (.v 3) .nil))))
    .nil) .nil)
    (.cons (.ifs (.cmp .Eq (.v 2) (.k (.int 6))) (.cons (.ret (.ix (.lst (.cons (.bi .list (.cons (.v 1) .nil)) (.cons (.bin .Add (.bin .Add (.sl false true (.v 1) (.cons (.v 3) .nil)) (.tup (.cons (.call "_law_odd" (.cons (.v 0) .nil)) .nil))) (.sl true false (.v 1) (.cons (.bin .Add (.v 3) (.k (.int 1))) .nil))) .nil))) (.call "_law_draw" (.cons (.v 0) (.cons (.k (.int 2)) .nil)))))
    .nil) .nil)
    (.cons (.ret (.bin .Add (.bin .Add (.sl false true (.v 1) (.cons (.v 3) .nil)) (.rev (.sl true true (.v 1) (.cons (.v 3) (.cons (.bin .Add (.v 3) (.k (.int 2))) .nil))))) (.sl true false (.v 1) (.cons (.bin .Add (.v 3) (.k (.int 2))) .nil))))
    .nil))))))))))
end Sw
namespace Sw
open PySem
mutual
def D.fit (B:Nat):D→Bool
 | .int i=>decide (i.natAbs≤B)
 | .str x=>x.cps.toList.all fun c=>decide (c<128)
 | .tup ds=>D.fits B ds
 | .lst ds=>D.fits B ds
 | .dic ks ds=>(ks.all fun k=>match k with | .inr x=>x.cps.toList.all fun c=>decide (c<128) | .inl i=>decide (i.natAbs≤B)) && D.fits B ds
 | .scr _=>false
 | .obj _=>false
 | _=>true
def D.fits (B:Nat):List D→Bool
 | []=>true
 | d :: r=>D.fit B d && D.fits B r
end
inductive OddR:List D→D→Prop
 | mk (d:D) (h:d.fit (10 ^ 59)=true) (h2:d.toQ.weight≤1000) (h3:d.toQ.depth≤8):OddR [] d
end Sw
namespace Sw
open PySem
mutual
theorem UI {B:Nat}:∀d:D,d.fit B=true→d.whole=true
 | .non,_=>rfl
 | .bl _,_=>rfl
 | .int _,_=>rfl
 | .str _,_=>rfl
 | .tup ds,h=>by rw[D.whole];rw[D.fit] at h;exact WQ ds h
 | .lst ds,h=>by rw[D.whole];rw[D.fit] at h;exact WQ ds h
 | .dic ks ds,h=>by rw[D.whole];rw[D.fit,Bool.and_eq_true] at h;exact WQ ds h.2
 | .scr _,h=>by rw[D.fit] at h;cases h
 | .obj _,h=>by rw[D.fit] at h;cases h
theorem WQ {B:Nat}:∀ds:List D,D.fits B ds=true→D.wholes ds=true
 | [],_=>rfl
 | d :: r,h=>by
   rw[D.fits,Bool.and_eq_true] at h
   rw[D.wholes,UI d h.1,WQ r h.2]
   rfl
end
mutual
theorem VZ {B C:Nat}(hBC:B≤C):∀d:D,d.fit B=true→d.fit C=true
 | .non,_=>rfl
 | .bl _,_=>rfl
 | .int i,h=>by rw[D.fit,decide_eq_true_eq] at h ⊢;omega
 | .str _,h=>by rw[D.fit] at h ⊢;exact h
 | .tup ds,h=>by rw[D.fit] at h ⊢;exact Vc hBC ds h
 | .lst ds,h=>by rw[D.fit] at h ⊢;exact Vc hBC ds h
 | .dic ks ds,h=>by
   rw[D.fit,Bool.and_eq_true] at h ⊢
   refine⟨List.all_eq_true.mpr fun k hk=>?_,Vc hBC ds h.2⟩
   have:=List.all_eq_true.mp h.1 k hk
   cases k with
   | inl i=>simp only[decide_eq_true_eq] at this ⊢;omega
   | inr x=>exact this
 | .scr _,h=>by rw[D.fit] at h;cases h
 | .obj _,h=>by rw[D.fit] at h;cases h
theorem Vc {B C:Nat}(hBC:B≤C):∀ds:List D,D.fits B ds=true→D.fits C ds=true
 | [],_=>rfl
 | d :: r,h=>by
   rw[D.fits,Bool.and_eq_true] at h
   rw[D.fits,VZ hBC d h.1,Vc hBC r h.2]
   rfl
end
theorem V1 {B:Nat}:∀ {ds:List D},D.fits B ds=true↔∀d∈ds,d.fit B=true
 | []=>by simp[D.fits]
 | d :: r=>by rw[D.fits,Bool.and_eq_true,V1 (ds:=r)];simp
theorem Zdh {i:Int}(h:i.natAbs≤10 ^ 62):(PyData.int i).showable=true∧(PyData.int i).leavesShort 400=true:=by
 have hl:i.natAbs.log2<398:=by
  by_cases z:i.natAbs=0
  · rw[z];decide
  · exact(Nat.log2_lt z).mpr (Nat.lt_of_le_of_lt h (by decide))
 obtain⟨_,a,_,b,_,_⟩:=Zjg (i:=i) hl
 exact⟨a,b⟩
theorem Zd2 {x:Str}(h:(x.cps.toList.all fun c=>decide (c<128))=true):(PyData.str x).leavesShort 400=true:=by
 simp only[PyData.leavesShort]
 rw[List.all_eq_true] at h ⊢
 intro c hc
 have:=of_decide_eq_true (h c hc)
 exact decide_eq_true (Nat.lt_of_lt_of_le this (by decide))
mutual
theorem Q6:∀d:D,d.fit (10 ^ 62)=true→d.toQ.showable=true∧d.toQ.leavesShort 400=true
 | .non,_=>⟨rfl,rfl⟩
 | .bl _,_=>⟨rfl,rfl⟩
 | .int i,h=>by rw[D.fit,decide_eq_true_eq] at h;exact Zdh h
 | .str x,h=>by rw[D.fit] at h;exact⟨rfl,Zd2 h⟩
 | .tup ds,h=>by rw[D.fit] at h;rw[D.toQ,PyData.showable,PyData.leavesShort];exact UK ds h
 | .lst ds,h=>by rw[D.fit] at h;rw[D.toQ,PyData.showable,PyData.leavesShort];exact UK ds h
 | .dic ks ds,h=>by
   rw[D.fit,Bool.and_eq_true] at h
   rw[D.toQ,PyData.showable,PyData.leavesShort]
   exact QO ks ds h.1 h.2
 | .scr _,h=>by rw[D.fit] at h;cases h
 | .obj _,h=>by rw[D.fit] at h;cases h
theorem UK:∀ds:List D,D.fits (10 ^ 62) ds=true→PyData.showableAll (D.toQs ds)=true∧PyData.leavesShortAll 400 (D.toQs ds)=true
 | [],_=>⟨rfl,rfl⟩
 | d :: r,h=>by
   rw[D.fits,Bool.and_eq_true] at h
   obtain⟨a,b⟩:=Q6 d h.1
   obtain⟨a2,b2⟩:=UK r h.2
   rw[D.toQs,PyData.showableAll,PyData.leavesShortAll,a,b,a2,b2]
   exact⟨rfl,rfl⟩
theorem QO:∀(ks:List L2.Key)(ds:List D),(ks.all fun k=>match k with | .inr x=>x.cps.toList.all fun c=>decide (c<128) | .inl i=>decide (i.natAbs≤10 ^ 62))=true→D.fits (10 ^ 62) ds=true→
  PyData.showableKv ((ks.map keyQ).zip (D.toQs ds))=true∧PyData.leavesShortKv 400 ((ks.map keyQ).zip (D.toQs ds))=true
 | [],_,_,_=>⟨rfl,rfl⟩
 | _ :: _,[],_,_=>⟨rfl,rfl⟩
 | k :: ks,d :: ds,hk,h=>by
   rw[D.fits,Bool.and_eq_true] at h
   rw[List.all_cons,Bool.and_eq_true] at hk
   obtain⟨a,b⟩:=Q6 d h.1
   obtain⟨a2,b2⟩:=QO ks ds hk.2 h.2
   have hk':(keyQ k).showable=true∧(keyQ k).leavesShort 400=true:=by
    cases k with
    | inl i=>exact Zdh (of_decide_eq_true hk.1)
    | inr x=>exact⟨rfl,Zd2 hk.1⟩
   rw[D.toQs,List.map_cons,List.zip_cons_cons,PyData.showableKv,PyData.leavesShortKv,a,b,a2,b2,hk'.1,hk'.2]
   exact⟨rfl,rfl⟩
end
structure Fit (d:D)(w h:Nat):Prop where
 fit:d.fit (10 ^ 62)=true
 wt:d.toQ.weight≤w
 dp:d.toQ.depth≤h
mutual
theorem Uo:∀d:D,d.pure=true→d.toQ=d.toP
 | .non,_=>rfl
 | .bl _,_=>rfl
 | .int _,_=>rfl
 | .str _,_=>rfl
 | .tup ds,h=>by rw[D.pure] at h;rw[D.toQ,D.toP,Qg ds h]
 | .lst ds,h=>by rw[D.pure] at h;rw[D.toQ,D.toP,Qg ds h]
 | .dic _ _,h=>by rw[D.pure] at h;cases h
 | .scr _,h=>by rw[D.pure] at h;cases h
 | .obj _,h=>by rw[D.pure] at h;cases h
theorem Qg:∀ds:List D,D.pureAll ds=true→D.toQs ds=D.toPs ds
 | [],_=>rfl
 | d :: r,h=>by
   rw[D.pureAll,Bool.and_eq_true] at h
   rw[D.toQs,D.toPs,Uo d h.1,Qg r h.2]
end
mutual
theorem QS:∀d:D,d.pure=true→d.toP.hasDict=false
 | .non,_=>rfl
 | .bl _,_=>rfl
 | .int _,_=>rfl
 | .str _,_=>rfl
 | .tup ds,h=>by rw[D.pure] at h;rw[D.toP,PyData.hasDict];exact W5 ds h
 | .lst ds,h=>by rw[D.pure] at h;rw[D.toP,PyData.hasDict];exact W5 ds h
 | .dic _ _,h=>by rw[D.pure] at h;cases h
 | .scr _,h=>by rw[D.pure] at h;cases h
 | .obj _,h=>by rw[D.pure] at h;cases h
theorem W5:∀ds:List D,D.pureAll ds=true→PyData.hasDictAll (D.toPs ds)=false
 | [],_=>rfl
 | d :: r,h=>by
   rw[D.pureAll,Bool.and_eq_true] at h
   rw[D.toPs,PyData.hasDictAll,QS d h.1,W5 r h.2]
   rfl
end
end Sw
namespace Sw
open PySem
theorem Vh:∀ds:List D,ds.length≤PyData.weightAll (D.toQs ds)
 | []=>Nat.zero_le _
 | d :: r=>by
   have:=Vh r
   rw[D.toQs,PyData.weightAll,List.length_cons]
   omega
mutual
theorem Zdc {B:Nat}:∀d:D,d.fit B=true→d.toQ.weight≤1000000→d.deep=true
 | .non,_,_=>rfl
 | .bl _,_,_=>rfl
 | .int _,_,_=>rfl
 | .str x,_,hw=>by
   rw[D.toQ,PyData.weight] at hw
   rw[D.deep]
   exact decide_eq_true hw
 | .tup ds,h,hw=>by
   rw[D.fit] at h
   rw[D.toQ,PyData.weight] at hw
   have:=Vh ds
   rw[D.deep,UJ ds h (by omega),Bool.true_and]
   exact decide_eq_true (by omega)
 | .lst ds,h,hw=>by
   rw[D.fit] at h
   rw[D.toQ,PyData.weight] at hw
   have:=Vh ds
   rw[D.deep,UJ ds h (by omega),Bool.true_and]
   exact decide_eq_true (by omega)
 | .dic _ _,_,_=>rfl
 | .scr _,h,_=>by rw[D.fit] at h;cases h
 | .obj _,h,_=>by rw[D.fit] at h;cases h
theorem UJ {B:Nat}:∀ds:List D,D.fits B ds=true→PyData.weightAll (D.toQs ds)≤1000000→D.deeps ds=true
 | [],_,_=>rfl
 | d :: r,h,hw=>by
   rw[D.fits,Bool.and_eq_true] at h
   rw[D.toQs,PyData.weightAll] at hw
   rw[D.deeps,Zdc d h.1 (by omega),UJ r h.2 (by omega)]
   rfl
end
end Sw
namespace Vw
open PySem Sw
structure W where
 pen:Option Addr
 b:Nat
 S:Za
abbrev QW:=D→W→Prop
abbrev CT:=Str→Str→List D→W→QW→Prop
structure Cfg where
 gl:Str→Option D
 fl:Str→Str→Bool
 me:Str→Str→Bool
 gc:Bool
abbrev PEnv:=List (Option (Bool×D))
inductive Md where
 | ex | op | pu
def atV (md:Md)(ρ:PEnv)(i:Nat)(Q:D→Prop):Prop:=match ρ[i]? with
 | some (some (false,d))=>Q d
 | some (some (true,d))=>match md with | .ex=>False | .op=>Q d | .pu=>d.pure=true∧Q d
 | _=>False
def optL (o:Option (List D))(Q:List D→Prop):Prop:=match o with | some x=>Q x | none=>False
def optE (o:Option PEnv)(Q:PEnv→Prop):Prop:=match o with | some x=>Q x | none=>False
def optI (o:Option (Str×List (Str×D)))(Q:Str→List (Str×D)→Prop):Prop:=match o with | some x=>Q x.1 x.2 | none=>False
def optS (o:Option Za)(Q:Za→Prop):Prop:=match o with | some x=>Q x | none=>False
def intD (x:D)(Q:Int→Prop):Prop:=match x with | .int i=>Q i | _=>False
mutual
def setV:Tg→D→PEnv→Option PEnv
 | .nm i,d,ρ=>some (ρ.set i (some (false,d)))
 | .tp a r,.tup ds,ρ=>ZJ (.tp a r) ds ρ
 | _,_,_=>none
def ZJ:Tg→List D→PEnv→Option PEnv
 | .tp a r,d :: ds,ρ=>match setV a d ρ with
   | some ρ'=>ZJ r ds ρ'
   | none=>none
 | .nil,[],ρ=>some ρ
 | _,_,_=>none
end
def Yt (ρ:PEnv):List Nat→PEnv
 | []=>ρ
 | v :: vs=>(Yt ρ vs).set v none
def moV:D→Option MO
 | .lst ds=>some (.lst ds)
 | .dic ks ds=>if ks.length=ds.length then some (.dic (ks.zip ds)) else none
 | _=>none
def Zy:D→Bool
 | .obj _=>true
 | _=>false
def stab (s:Src)(ds items:List D)(w:W):Prop:=if ds.any Zy=true then srcD s w.S ds=some items else True
def Y8 (step:D→W→(Option D→W→Prop)→Prop):List D→List D→W→(List D→W→Prop)→Prop
 | [],acc,w,Q=>Q acc w
 | d :: r,acc,w,Q=>step d w fun o w'=>match o with
   | none=>Y8 step r acc w' Q
   | some y=>acc.length<sizeLine∧Y8 step r (acc++[y]) w' Q
def XA (step:D→Nat→(Option D→Nat→Prop)→Prop):List D→List D→Nat→(List D→Nat→Prop)→Prop
 | [],acc,b,Q=>Q acc b
 | d :: r,acc,b,Q=>step d b fun o b'=>match o with
   | none=>XA step r acc b' Q
   | some y=>acc.length<sizeLine∧XA step r (acc++[y]) b' Q
def WA (w w':W):Prop:=w'.S=w.S∧w'.pen=w.pen
def YN (o:CmpOp):Md×Md:=match o with
 | .In=>(.pu,.op) | .NotIn=>(.pu,.op) | .Eq=>(.pu,.pu) | .NotEq=>(.pu,.pu) | _=>(.ex,.ex)
def biMd (f:Bi):Md:=match f with | .repr=>.pu | .suml=>.ex | _=>.op
@[reducible] def Vg (s:Src):Md:=match s with | .keys=>.ex | _=>.op
def Qr (ρ:PEnv):PEnv:=ρ.map fun o=>match o with | some (true,_)=>none | o=>o
def w00k:W:=⟨none,0,fun _=>none⟩
mutual
def xE (G:Cfg)(C:CT):Md→M→PEnv→W→QW→Prop
 | md,.v i,ρ,w,Q=>atV md ρ i fun d=>Q d w
 | _,.k d,_,w,Q=>Q d w
 | _,.g x,_,w,Q=>optD (G.gl x) fun d=>Q d w
 | _,.bin o a b,ρ,w,Q=>xE G C .op a ρ w fun x w1=>xE G C .op b ρ w1 fun y w2=>optD (binD o w2.S x y) fun z=>Q z w2
 | _,.neg a,ρ,w,Q=>xE G C .ex a ρ w fun x w1=>intD x fun i=>Q (.int (-i)) w1
 | _,.cmp o a b,ρ,w,Q=>xE G C (YN o).1 a ρ w fun x w1=>xE G C (YN o).2 b ρ w1 fun y w2=>optB (cmpB o w2.S x y) fun z=>Q (.bl z) w2
 | _,.chain o o' a b c,ρ,w,Q=>xE G C .ex a ρ w fun x w1=>xE G C .ex b ρ w1 fun y w2=>optB (cmpB o w2.S x y) fun z=>
   if z=true then xE G C .ex c ρ w2 fun u w3=>optB (cmpB o' w3.S y u) fun z'=>Q (.bl z') w3 else Q (.bl false) w2
 | _,.isn no a,ρ,w,Q=>xE G C .op a ρ w fun x w1=>Q (.bl (no != isNon x)) w1
 | _,.isb no b a,ρ,w,Q=>xE G C .ex a ρ w fun x w1=>match x with | .bl b'=>Q (.bl (no != (b' == b))) w1 | _=>False
 | md,.and a b,ρ,w,Q=>xE G C md a ρ w fun x w1=>optB (truD w1.S x) fun t=>if t=true then xE G C md b ρ w1 Q else Q x w1
 | md,.or a b,ρ,w,Q=>xE G C md a ρ w fun x w1=>optB (truD w1.S x) fun t=>if t=true then Q x w1 else xE G C md b ρ w1 Q
 | _,.not a,ρ,w,Q=>xE G C .op a ρ w fun x w1=>optB (truD w1.S x) fun t=>Q (.bl (!t)) w1
 | md,.ite c a b,ρ,w,Q=>xE G C .op c ρ w fun x w1=>optB (truD w1.S x) fun t=>if t=true then xE G C md a ρ w1 Q else xE G C md b ρ w1 Q
 | _,.tup as,ρ,w,Q=>xEs G C .ex as ρ w fun ds w1=>ds.length≤sizeLine∧Q (.tup ds) w1
 | _,.lst as,ρ,w,Q=>xEs G C .ex as ρ w fun ds w1=>ds.length≤sizeLine∧Q (.lst ds) w1
 | _,.dct ks as,ρ,w,Q=>xEs G C .ex as ρ w fun ds w1=>Q (.dic (ks.map Sum.inr) ds) w1
 | _,.isa t a,ρ,w,Q=>xE G C .op a ρ w fun x w1=>optB (isaD t w1.S x) fun b=>Q (.bl b) w1
 | _,.bi f as,ρ,w,Q=>xEs G C (biMd f) as ρ w fun ds w1=>optD (biD f w1.S ds) fun z=>Q z w1
 | _,.ix a i,ρ,w,Q=>xE G C .op a ρ w fun x w1=>xE G C .ex i ρ w1 fun y w2=>optD (ixOf w2.S x y) fun z=>Q z w2
 | _,.sl lo hi a as,ρ,w,Q=>xE G C .op a ρ w fun x w1=>xIs G C as ρ w1 fun is w2=>
   match lo,hi,is with
   | false,false,[]=>optD (slOf w2.S x none none) fun z=>Q z w2
   | true,false,[l]=>optD (slOf w2.S x (some l) none) fun z=>Q z w2
   | false,true,[h]=>optD (slOf w2.S x none (some h)) fun z=>Q z w2
   | true,true,[l,h]=>optD (slOf w2.S x (some l) (some h)) fun z=>Q z w2
   | _,_,_=>False
 | _,.call f as,ρ,w,Q=>xEs G C .ex as ρ w fun ds w1=>C "" f ds w1 Q
 | _,.comp s as own tg cs el,ρ,w,Q=>xEs G C (Vg s) as ρ w fun ds w1=>optL (srcD s w1.S ds) fun items=>
   if G.gc=true then Y8 (fun d w K=>stab s ds items w∧optE (setV tg d (Yt ρ own)) fun ρ'=>
     xTs G C cs ρ' w fun t w'=>if t=true then xE G C .ex el ρ' w' fun y w''=>K (some y) w'' else K none w') items [] w1 (fun acc w'=>stab s ds items w'∧Q (.lst acc) w')
   else XA (fun d b K=>optE (setV tg d (Yt ρ own)) fun ρ'=>
     xTs G C cs ρ' { w1 with b:=b } fun t w'=>if t=true then xE G C .ex el ρ' w' fun y w''=>WA w1 w''∧K (some y) w''.b else WA w1 w'∧K none w'.b) items [] w1.b (fun acc b=>Q (.lst acc) { w1 with b:=b })
 | _,.meth m o as,ρ,w,Q=>xE G C .ex o ρ w fun x w1=>Y1 x=true∧xEs G C .op as ρ w1 fun ds w2=>optD (meD m w2.S x ds) fun z=>Q z w2
 | _,.own a,ρ,w,Q=>xE G C .ex a ρ w fun x w1=>match moV x with
   | some mo=>∀p,w1.S p=none→w1.pen≠some p→Q (.obj p) { w1 with S:=sput w1.S p mo }
   | none=>False
 | _,.frz a,ρ,w,Q=>xE G C .ex a ρ w fun x w1=>match x with
   | .obj p=>match w1.S p with
     | some (.lst ds)=>Q (.lst ds) { w1 with S:=sdel w1.S p }
     | some (.dic kvs)=>Q (.dic (kvs.map (·.1)) (kvs.map (·.2))) { w1 with S:=sdel w1.S p }
     | _=>False
   | _=>False
 | _,.rev a,ρ,w,Q=>xE G C .op a ρ w fun x w1=>optD (revD w1.S x) fun z=>Q z w1
 | _,.isat ts a,ρ,w,Q=>xE G C .op a ρ w fun x w1=>optB (YW ts w1.S x) fun b=>Q (.bl b) w1
 | _,.lset a,ρ,w,Q=>xE G C .op a ρ w fun x w1=>optD (YO w1.S x) fun z=>Q z w1
 | _,.sset a,ρ,w,Q=>xE G C .op a ρ w fun x w1=>optD (YQ w1.S x) fun z=>Q z w1
 | _,.at a f,ρ,w,Q=>xE G C .ex a ρ w fun x w1=>optI (insD w1.S x) fun c fs=>G.fl c f=true∧optD (fs.lookup f) fun z=>Q z w1
 | _,.tel m o as,ρ,w,Q=>xE G C .op o ρ w fun x w1=>mlTy m w1.S x=true∧xEs G C .ex as ρ w1 fun ds w2=>optD (mlD m w2.S x ds) fun z=>Q z w2
 | _,.mutv m o as,ρ,w,Q=>xE G C .ex o ρ w fun y w1=>∃a ds1,y=.obj a∧w1.S a=some (.lst ds1)∧xEs G C .ex as ρ w1 fun xs w2=>∃ds z ds',w2.S a=some (.lst ds)∧muD m w2.S ds xs=some (z,ds')∧Q z { w2 with S:=sput w2.S a (.lst ds') }
 | _,.mcall o m as,ρ,w,Q=>xE G C .ex o ρ w fun x w1=>optI (insD w1.S x) fun c fs=>fs.lookup m=none∧G.me c m=true∧xEs G C .ex as ρ w1 fun ds w2=>C c m (x :: ds) w2 Q
 | _,.mk c as,ρ,w,Q=>xEs G C .ex as ρ w fun ds w1=>∀p,w1.S p=none→w1.pen≠some p→C c "__init__" (.obj p :: ds) { w1 with S:=sput w1.S p (.ins c []) } fun v w2=>v=.non∧Q (.obj p) w2
 | _,.unr,_,_,_=>False
 | _,.lk i a,ρ,w,Q=>∃ks ds,ρ[i]?=some (some (true,.dic ks ds))∧xE G C .ex a ((Qr ρ).set i (some (false,.dic ks ds))) w00k fun d _=>d.pure=true∧Q d w
def xEs (G:Cfg)(C:CT):Md→Ms→PEnv→W→(List D→W→Prop)→Prop
 | _,.nil,_,w,Q=>Q [] w
 | md,.cons a r,ρ,w,Q=>xE G C md a ρ w fun x w1=>xEs G C md r ρ w1 fun xs w2=>Q (x :: xs) w2
def xIs (G:Cfg)(C:CT):Ms→PEnv→W→(List Int→W→Prop)→Prop
 | .nil,_,w,Q=>Q [] w
 | .cons a r,ρ,w,Q=>xE G C .ex a ρ w fun x w1=>intD x fun i=>xIs G C r ρ w1 fun xs w2=>Q (i :: xs) w2
def xTs (G:Cfg)(C:CT):Ms→PEnv→W→(Bool→W→Prop)→Prop
 | .nil,_,w,Q=>Q true w
 | .cons a .nil,ρ,w,Q=>xE G C .op a ρ w fun x w1=>optB (truD w1.S x) fun t=>Q t w1
 | .cons _ (.cons _ _),_,_,_=>False
end
structure Xc where
 nx:PEnv→W→Prop
 rt:QW
def subL (d z x:D):Option D:=match d with
 | .lst ds=>match z with
   | .int k=>if 0≤k∧k<ds.length then some (.lst (ds.set k.toNat x)) else none
   | _=>none
 | .dic ks ds=>match keyD z with
   | some k=>if(ks.zip ds).length<sizeLine then some (.dic ((Xe (ks.zip ds) k x).map (·.1)) ((Xe (ks.zip ds) k x).map (·.2))) else none
   | none=>none
 | _=>none
def ZaB (d z:D):Option D:=match d with
 | .dic ks ds=>match keyD z with
   | some k=>some (.dic (((ks.zip ds).filter fun kv=>!decide (kv.1=k)).map (·.1)) (((ks.zip ds).filter fun kv=>!decide (kv.1=k)).map (·.2)))
   | none=>none
 | _=>none
def ownAt (o:M)(ρ:PEnv):Option (Nat×D):=match o with
 | .v i=>match ρ[i]? with | some (some (true,d))=>some (i,d) | _=>none
 | _=>none
def lstD (d:D)(Q:List D→Prop):Prop:=match d with | .lst ds=>Q ds | _=>False
def xFor (g:W→Prop)(turn:D→PEnv→W→(PEnv→W→Prop)→Prop):List D→PEnv→W→(PEnv→W→Prop)→Prop
 | [],ρ,w,Q=>g w∧Q ρ w
 | d :: r,ρ,w,Q=>g w∧turn d ρ w fun ρ' w'=>xFor g turn r ρ' w' Q
def muMd (m:Mu):Md:=match m with | .extend=>.op | _=>.ex
def frzAt (m:M)(ρ:PEnv):Option D:=match m with
 | .frz (.v i)=>match ρ[i]? with | some (some (true,d))=>some d | _=>none
 | _=>none
mutual
def xC (G:Cfg)(C:CT)(lin:List Nat):Sw.C→Xc→PEnv→W→Prop
 | .asg tg e,E,ρ,w=>match tg,e with
   | .nm i,.own e'=>if i∈lin then xE G C .ex e' ρ w fun x w1=>(moV x).isSome=true∧E.nx (ρ.set i (some (true,x))) w1
     else xE G C .ex (.own e') ρ w fun x w1=>E.nx (ρ.set i (some (false,x))) w1
   | tg,e=>xE G C .ex e ρ w fun x w1=>optE (setV tg x ρ) fun ρ'=>E.nx ρ' w1
 | .par i j a b,E,ρ,w=>xE G C .ex a ρ w fun x w1=>xE G C .ex b ρ w1 fun y w2=>E.nx ((ρ.set i (some (false,x))).set j (some (false,y))) w2
 | .aug i o e,E,ρ,w=>atV .ex ρ i fun x=>intD x fun x=>xE G C .ex e ρ w fun y w1=>intD y fun y=>match o with
   | .Add=>E.nx (ρ.set i (some (false,.int (x+y)))) w1
   | .Sub=>E.nx (ρ.set i (some (false,.int (x - y)))) w1
   | _=>False
 | .sub o i e,E,ρ,w=>xE G C .ex e ρ w fun x w1=>match ownAt o ρ with
   | some (k,d)=>xE G C .ex i ρ w1 fun z w3=>optD (subL d z x) fun d'=>E.nx (ρ.set k (some (true,d'))) w3
   | none=>xE G C .ex o ρ w1 fun y w2=>xE G C .ex i ρ w2 fun z w3=>optS (subD w3.S y z x) fun S4=>E.nx ρ { w3 with S:=S4 }
 | .sat o f e,E,ρ,w=>xE G C .ex e ρ w fun x w1=>xE G C .ex o ρ w1 fun y w2=>match satD w2.S y f x with | some (c,S3)=>G.fl c f=true∧E.nx ρ { w2 with S:=S3 } | none=>False
 | .dpop o k d,E,ρ,w=>match ownAt o ρ with
   | some (i,x)=>(dicD w.S x).isSome=true∧xE G C .ex k ρ w fun y w2=>xE G C .ex d ρ w2 fun _ w3=>optD (ZaB x y) fun d'=>E.nx (ρ.set i (some (true,d'))) w3
   | none=>xE G C .ex o ρ w fun x w1=>(dicD w1.S x).isSome=true∧xE G C .ex k ρ w1 fun y w2=>xE G C .ex d ρ w2 fun _ w3=>optS (WN w3.S x y) fun S4=>E.nx ρ { w3 with S:=S4 }
 | .exp e,E,ρ,w=>xE G C .ex e ρ w fun _ w1=>E.nx ρ w1
 | .mut m o as,E,ρ,w=>match ownAt o ρ with
   | some (i,d)=>lstD d fun ds=>xEs G C (muMd m) as ρ w fun xs w1=>optM (muD m w1.S ds xs) fun ds'=>E.nx (ρ.set i (some (true,.lst ds'))) w1
   | none=>xE G C .ex o ρ w fun y w1=>∃a ds1,y=.obj a∧w1.S a=some (.lst ds1)∧xEs G C .ex as ρ w1 fun xs w2=>∃ds z ds',w2.S a=some (.lst ds)∧muD m w2.S ds xs=some (z,ds')∧E.nx ρ { w2 with S:=sput w2.S a (.lst ds') }
 | .ret e,E,ρ,w=>match frzAt e ρ with
   | some d=>E.rt d w
   | none=>xE G C .ex e ρ w E.rt
 | .retN,E,_,w=>E.rt .non w
 | .pass,E,ρ,w=>E.nx ρ w
 | .ifs c a b,E,ρ,w=>xE G C .op c ρ w fun x w1=>optB (truD w1.S x) fun t=>if t=true then xCs G C lin a E ρ w1 else xCs G C lin b E ρ w1
 | .for s as tg body,E,ρ,w=>xEs G C .ex as ρ w fun ds w1=>optL (srcD s w1.S ds) fun items=>
   xFor (stab s ds items) (fun d ρ w N=>optE (setV tg d ρ) fun ρ'=>xCs G C lin body { E with nx:=N } ρ' w) items ρ w1 E.nx
 | .while c body,E,ρ,w=>∃I:Nat→PEnv→W→Prop,(∃m,I m ρ w)∧∀m ρ w,I m ρ w→
   xE G C .op c ρ w fun x w1=>optB (truD w1.S x) fun t=>if t=true then xCs G C lin body { E with nx:=fun ρ' w'=>∃m',m'<m∧I m' ρ' w' } ρ w1 else E.nx ρ w1
 | .wipe is,E,ρ,w=>E.nx (Yt ρ is) w
 | .fre i,E,ρ,w=>match ρ[i]? with
   | some (some (true,d))=>E.nx (ρ.set i (some (false,d))) w
   | _=>False
 | .unr,_,_,_=>False
def xCs (G:Cfg)(C:CT)(lin:List Nat):Cs→Xc→PEnv→W→Prop
 | .nil,E,ρ,w=>E.nx ρ w
 | .cons a r,E,ρ,w=>xC G C lin a { E with nx:=fun ρ' w'=>xCs G C lin r E ρ' w' } ρ w
end
def Y7 (n:Nat)(ds:List D):PEnv:=ds.map (fun d=>some (false,d))++List.replicate (n - ds.length) none
structure PDef where
 n:Nat
 ps:Nat
 lin:List Nat
 gc:Bool
 fg:Bool
 body:Cs
inductive Bs where
 | dr | pn
 | R (R:List D→D→Prop)
 | P (c:Nat) (pre:List D→Prop) (R:List D→D→Prop)
 | N (R:List D→List D→Prop)
def bsV:Bs→List D→W→QW→Prop
 | .dr,ds,w,Q=>∃p m,ds=[.obj p,.int m]∧w.pen=some p∧0<m∧m<2 ^ 64∧1≤w.b∧∀r,0≤r→r<m→Q (.int r) { w with b:=w.b - 1 }
 | .pn,ds,w,Q=>∃ns:List Int,ds=[.scr (ns.map .int)]∧ns.length≤63∧w.pen=none∧∀p,w.S p=none→Q (.obj p) { w with pen:=some p,b:=2 ^ 40 }
 | .R R,ds,w,Q=>∃d,R ds d∧Q d w
 | .P c pre R,ds,w,Q=>∃p as,ds=.obj p :: as∧w.pen=some p∧c≤w.b∧pre as∧∀d,R as d→Q d { w with b:=w.b - c }
 | .N R,ds,w,Q=>∃xs,R ds xs∧∀p,w.S p=none→w.pen≠some p→Q (.obj p) { w with S:=sput w.S p (.lst xs) }
structure Tab where
 cfg:Cfg
 df:Str→Str→Option PDef
 bs:Str→Option Bs
def Ext (S S':Za):Prop:=∀a u,S a=some u→S' a=some u
def fgQ (fg:Bool)(w:W)(Q:QW):QW:=if fg=true then fun d w'=>Ext w.S w'.S∧Q d { w' with S:=w.S } else Q
def cT (T:Tab):Nat→CT
 | 0=>fun c f ds w Q=>match T.bs f with
   | some b=>c = "" ∧bsV b ds w Q
   | none=>False
 | n+1=>fun c f ds w Q=>match T.df c f with
   | some d=>ds.length=d.ps∧xCs { T.cfg with gc:=d.gc } (cT T n) d.lin d.body { nx:=fun _ w'=>fgQ d.fg w Q .non w',rt:=fgQ d.fg w Q } (Y7 d.n ds) w
   | none=>match T.bs f with
     | some b=>c = "" ∧bsV b ds w Q
     | none=>False
end Vw
namespace Vw
open PySem Sw
variable {S S':Za}{x y z:D}{ds:List D}
def Up {α:Type}(f:Za→Option α):Prop:=∀S S',Ext S S'→∀z,f S=some z→f S'=some z
theorem Up.of_eq {α:Type}{f:Za→Option α}(h:∀S S',f S=f S'):Up f:=fun S S' _ z e=>(h S S')▸e
theorem Up.obj {α:Type}{f:Za→Option α}(a:Addr)(h0:∀S,S a=none→f S=none)(h1:∀S S' u,S a=some u→S' a=some u→f S=f S'):Up f:=fun S S' hx z e=>by
 cases q:S a with
 | none=>rw[h0 S q] at e;cases e
 | some u=>rw[← h1 S S' u q (hx a u q)];exact e
theorem Up.map {α β:Type}{f:Za→Option α}{g:α→β}(h:Up f):Up fun S=>(f S).map g:=fun S S' hx z e=>by
 cases q:f S with
 | none=>simp only[q] at e;cases e
 | some u=>simp only[q] at e;simp only[h S S' hx u q];exact e
theorem Up.bind {α β:Type}{f:Za→Option α}{g:Za→α→Option β}(h:Up f)(hg:∀a,Up fun S=>g S a):Up fun S=>(f S).bind (g S):=fun S S' hx z e=>by
 cases q:f S with
 | none=>simp only[q] at e;cases e
 | some u=>simp only[q] at e;simp only[h S S' hx u q];exact hg u S S' hx z e
theorem QF:∀x,Up fun S=>peel S x
 | .obj a=>.obj a (fun S q=>by simp[peel,q]) (fun S S' u q q'=>by simp[peel,q,q'])
 | .non | .bl _ | .int _ | .str _ | .tup _ | .lst _ | .dic _ _ | .scr _=>.of_eq fun _ _=>rfl
theorem Za8:∀x,Up fun S=>seqD S x
 | .obj a=>.obj a (fun S q=>by simp[seqD,peel,q]) (fun S S' u q q'=>by simp[seqD,peel,q,q'])
 | .non | .bl _ | .int _ | .str _ | .tup _ | .lst _ | .dic _ _ | .scr _=>.of_eq fun _ _=>rfl
theorem Zn5:∀x,Up fun S=>dicD S x
 | .obj a=>.obj a (fun S q=>by simp[dicD,q]) (fun S S' u q q'=>by simp[dicD,q,q'])
 | .non | .bl _ | .int _ | .str _ | .tup _ | .lst _ | .dic _ _ | .scr _=>.of_eq fun _ _=>rfl
mutual
theorem ZnQ {S S':Za}(hx:Ext S S'):∀d:D,(d.res S).pure=true→d.res S'=d.res S
 | .non,_=>rfl
 | .bl _,_=>rfl
 | .int _,_=>rfl
 | .str _,_=>rfl
 | .tup ds,h=>by rw[D.res,D.pure] at h;rw[D.res,D.res,VC hx ds h]
 | .lst ds,h=>by rw[D.res,D.pure] at h;rw[D.res,D.res,VC hx ds h]
 | .dic _ _,_=>rfl
 | .scr _,_=>rfl
 | .obj a,h=>by
   rw[D.res] at h ⊢
   rw[D.res]
   cases q:S a with
   | none=>rw[q] at h;dsimp only at h;rw[D.pure] at h;cases h
   | some u=>rw[hx a u q]
theorem VC {S S':Za}(hx:Ext S S'):∀ds:List D,D.pureAll (D.ress S ds)=true→D.ress S' ds=D.ress S ds
 | [],_=>rfl
 | d :: r,h=>by
   rw[D.ress,D.pureAll,Bool.and_eq_true] at h
   rw[D.ress,D.ress,ZnQ hx d h.1,VC hx r h.2]
end
mutual
theorem Zb3 {S:Za}:∀d:D,d.whole=true→d.res S=d
 | .non,_=>rfl
 | .bl _,_=>rfl
 | .int _,_=>rfl
 | .str _,_=>rfl
 | .tup ds,h=>by rw[D.whole] at h;rw[D.res,Ug ds h]
 | .lst ds,h=>by rw[D.whole] at h;rw[D.res,Ug ds h]
 | .dic _ _,_=>rfl
 | .scr _,_=>rfl
 | .obj _,h=>by rw[D.whole] at h;cases h
theorem Ug {S:Za}:∀ds:List D,D.wholes ds=true→D.ress S ds=ds
 | [],_=>rfl
 | d :: r,h=>by rw[D.wholes,Bool.and_eq_true] at h;rw[D.ress,Zb3 d h.1,Ug r h.2]
end
theorem ZS {S:Za}{d:D}(h:d.whole=true):Zl S d=if d.pure=true then some d.toP else none:=by
 have e:=Zb3 (S:=S) d h
 cases d with
 | tup ds=>
   have e:D.tup (D.ress S ds)=D.tup ds:=by rw[D.res] at e;exact e
   injection e with e
   unfold Zl
   dsimp only
   rw[e,D.pure,D.toP]
 | lst ds=>
   have e:D.lst (D.ress S ds)=D.lst ds:=by rw[D.res] at e;exact e
   injection e with e
   unfold Zl
   dsimp only
   rw[e,D.pure,D.toP]
 | obj a=>cases h
 | _=>rfl
theorem ZlR:∀x,Up fun S=>Zl S x
 | .obj a=>.obj a (fun S q=>by simp[Zl,q]) (fun S S' u q q'=>by simp[Zl,q,q'])
 | .tup ds=>fun S S' hx z e=>by
   have e:Zl S (.tup ds)=some z:=e
   show Zl S' (.tup ds)=some z
   unfold Zl at e ⊢
   dsimp only at e ⊢
   split at e
   · next h=>rw[VC hx ds h,if_pos h];exact e
   · cases e
 | .lst ds=>fun S S' hx z e=>by
   have e:Zl S (.lst ds)=some z:=e
   show Zl S' (.lst ds)=some z
   unfold Zl at e ⊢
   dsimp only at e ⊢
   split at e
   · next h=>rw[VC hx ds h,if_pos h];exact e
   · cases e
 | .non | .bl _ | .int _ | .str _ | .dic _ _ | .scr _=>.of_eq fun _ _=>rfl
theorem Zn6:∀x,Up fun S=>insD S x
 | .obj a=>.obj a (fun S q=>by simp[insD,q]) (fun S S' u q q'=>by simp[insD,q,q'])
 | .non | .bl _ | .int _ | .str _ | .tup _ | .lst _ | .dic _ _ | .scr _=>.of_eq fun _ _=>rfl
theorem Zn7 (t:Ty):∀x,Up fun S=>isaD t S x
 | .obj a=>.obj a (fun S q=>by simp[isaD,q]) (fun S S' u q q'=>by simp[isaD,q,q'])
 | .non | .bl _ | .int _ | .str _ | .tup _ | .lst _ | .dic _ _ | .scr _=>.of_eq fun _ _=>rfl
theorem W9:∀x,Up fun S=>truD S x
 | .obj a=>.obj a (fun S q=>by simp[truD,q]) (fun S S' u q q'=>by simp[truD,q,q'])
 | .non | .bl _ | .int _ | .str _ | .tup _ | .lst _ | .dic _ _ | .scr _=>.of_eq fun _ _=>rfl
theorem Zfo {v:List D}(hx:Ext S S')(e:peel S x=some v):peel S' x=some v:=QF x S S' hx v e
theorem Qb {v:List D}(hx:Ext S S')(e:seqD S x=some v):seqD S' x=some v:=Za8 x S S' hx v e
theorem ZaA {v:List (L2.Key×D)}(hx:Ext S S')(e:dicD S x=some v):dicD S' x=some v:=Zn5 x S S' hx v e
theorem Ws {v:PyData}(hx:Ext S S')(e:Zl S x=some v):Zl S' x=some v:=ZlR x S S' hx v e
theorem Zhe {v:Str×List (Str×D)}(hx:Ext S S')(e:insD S x=some v):insD S' x=some v:=Zn6 x S S' hx v e
theorem ZlO (ts:List Ty):∀x,Up fun S=>YW ts S x
 | .obj a=>.obj a (fun S q=>by simp[YW,isaD,q]) (fun S S' u q q'=>by simp only[YW,isaD,q,q'])
 | .non | .bl _ | .int _ | .str _ | .tup _ | .lst _ | .dic _ _ | .scr _=>.of_eq fun _ _=>rfl
theorem Zob:∀x,Up fun S=>revD S x
 | .obj a=>.obj a (fun S q=>by simp[revD,peel,q]) (fun S S' u q q'=>by simp[revD,peel,q,q'])
 | .non | .bl _ | .int _ | .str _ | .tup _ | .lst _ | .dic _ _ | .scr _=>.of_eq fun _ _=>rfl
theorem Zp1 (lo hi:Option Int):∀x,Up fun S=>slOf S x lo hi
 | .obj a=>.obj a (fun S q=>by simp[slOf,peel,q]) (fun S S' u q q'=>by simp[slOf,peel,q,q'])
 | .non | .bl _ | .int _ | .str _ | .tup _ | .lst _ | .dic _ _ | .scr _=>.of_eq fun _ _=>rfl
theorem ZpY (y:D):∀x,Up fun S=>ixOf S x y
 | .obj a=>.obj a (fun S q=>by cases y <;> simp[ixOf,dicD,seqD,peel,q]) (fun S S' u q q'=>by simp only[ixOf,dicD,seqD,peel,q,q'])
 | .non | .bl _ | .int _ | .str _ | .tup _ | .lst _ | .dic _ _ | .scr _=>.of_eq fun _ _=>rfl
theorem ZlP:∀x,Up fun S=>YO S x
 | .obj a=>.obj a (fun S q=>by simp[YO,seqD,peel,q]) (fun S S' u q q'=>by simp only[YO,seqD,peel,q,q'])
 | .non | .bl _ | .int _ | .str _ | .tup _ | .lst _ | .dic _ _ | .scr _=>.of_eq fun _ _=>rfl
theorem ZlT:∀x,Up fun S=>YQ S x
 | .obj a=>.obj a (fun S q=>by simp[YQ,seqD,peel,q]) (fun S S' u q q'=>by simp only[YQ,seqD,peel,q,q'])
 | .non | .bl _ | .int _ | .str _ | .tup _ | .lst _ | .dic _ _ | .scr _=>.of_eq fun _ _=>rfl
theorem Zn0 {α:Type}(f:Za→D→D→Option α)(x y:D)
  (hn:Zy x=false→Zy y=false→∀S S',f S x y=f S' x y)
  (hx0:∀a S,S a=none→x=.obj a→f S x y=none) (hy0:∀a S,S a=none→y=.obj a→f S x y=none)
  (h1:∀a S S' u,x=.obj a→S a=some u→S' a=some u→Zy y=false→f S x y=f S' x y)
  (h2:∀b S S' v,y=.obj b→S b=some v→S' b=some v→Zy x=false→f S x y=f S' x y)
  (h3:∀a b S S' u v,x=.obj a→y=.obj b→S a=some u→S' a=some u→S b=some v→S' b=some v→f S x y=f S' x y):Up fun S=>f S x y:=by
 intro S S' hx z e
 have e:f S x y=some z:=e
 show f S' x y=some z
 by_cases ox:Zy x=true
 · obtain⟨a,rfl⟩:∃a,x=.obj a:=by cases x <;> first | exact⟨_,rfl⟩ | cases ox
   cases q:S a with
   | none=>rw[hx0 a S q rfl] at e;cases e
   | some u=>
     by_cases oy:Zy y=true
     · obtain⟨b,rfl⟩:∃b,y=.obj b:=by cases y <;> first | exact⟨_,rfl⟩ | cases oy
       cases q2:S b with
       | none=>rw[hy0 b S q2 rfl] at e;cases e
       | some v=>rw[← h3 a b S S' u v rfl rfl q (hx a u q) q2 (hx b v q2)];exact e
     · rw[← h1 a S S' u rfl q (hx a u q) (by simpa using oy)];exact e
 · by_cases oy:Zy y=true
   · obtain⟨b,rfl⟩:∃b,y=.obj b:=by cases y <;> first | exact⟨_,rfl⟩ | cases oy
     cases q2:S b with
     | none=>rw[hy0 b S q2 rfl] at e;cases e
     | some v=>rw[← h2 b S S' v rfl q2 (hx b v q2) (by simpa using ox)];exact e
   · rw[← hn (by simpa using ox) (by simpa using oy) S S'];exact e
theorem Zn1:∀x y,Up fun S=>addD S x y:=fun x y=>Zn0 addD x y
 (fun hx hy S S'=>by cases x <;> first | (cases hx;done) | (cases y <;> first | (cases hy;done) | rfl))
 (fun a S q e=>by subst e;cases y <;> simp[addD,peel,q])
 (fun a S q e=>by subst e;cases x <;> simp[addD,peel,q])
 (fun a S S' u e q q' hy=>by subst e;cases y <;> first | (cases hy;done) | simp[addD,peel,q,q'])
 (fun a S S' u e q q' hy=>by subst e;cases x <;> first | (cases hy;done) | simp[addD,peel,q,q'])
 (fun a b S S' u v e1 e2 q q' r r'=>by subst e1;subst e2;simp only[addD,peel,q,q',r,r'])
theorem Zoa:∀x y,Up fun S=>mulD S x y
 | .obj a,.int k=>.obj a (fun S q=>by simp[mulD,peel,q]) (fun S S' u q q'=>by simp[mulD,peel,q,q'])
 | .obj a,.non | .obj a,.bl _ | .obj a,.str _ | .obj a,.tup _ | .obj a,.lst _ | .obj a,.dic _ _ | .obj a,.scr _ | .obj a,.obj _=>.of_eq fun _ _=>rfl
 | .non,y | .bl _,y | .str _,y | .tup _,y | .lst _,y | .dic _ _,y | .scr _,y | .int _,y=>.of_eq fun _ _=>by cases y <;> rfl
theorem Zn4 (o:Operator)(x y:D):Up fun S=>binD o S x y:=by
 cases o <;> first | exact Zn1 x y | exact Zoa x y | exact .of_eq fun _ _=>rfl
theorem up_eq (x y:D):Up fun S=>eqD S x y:=fun S S' hx z e=>by
 have e:eqD S x y=some z:=e
 show eqD S' x y=some z
 unfold eqD at e ⊢
 cases hp:Zl S x with
 | some p=>
   rw[hp] at e;rw[Ws hx hp]
   cases hq:Zl S y with
   | some q=>rw[hq] at e;rw[Ws hx hq];exact e
   | none=>
     rw[hq] at e;dsimp only at e
     have hw:y.whole=true:=by
      by_cases z:y.whole=true
      · exact z
      · rw[if_neg (fun a=>z a.1)] at e;cases e
     rw[ZS hw,← ZS (S:=S) hw,hq];exact e
 | none=>
   rw[hp] at e
   cases hq:Zl S y with
   | some q=>
     rw[hq] at e;rw[Ws hx hq];dsimp only at e
     have hw:x.whole=true:=by
      by_cases z:x.whole=true
      · exact z
      · rw[if_neg (fun a=>z a.1)] at e;cases e
     rw[ZS hw,← ZS (S:=S) hw,hp];exact e
   | none=>rw[hq] at e;cases e
theorem Wm (S:Za)(x:D){y:D}(h:Y1 y=false):inD S x y=match dicD S y with
  | some kvs=>match keyD x with | some k=>some (Xv kvs k).isSome | none=>none
  | none=>match seqD S y,Zl S x with
    | some ds,some p=>if D.pureAll ds=true∧min (PyData.depthAll (D.toPs ds)) p.depth≤64 then some ((D.toPs ds).any fun z=>PyData.eqv z p) else none
    | some ds,none=>if x.whole=true∧D.pureAll ds=true∧min (PyData.depthAll (D.toPs ds)) x.toQ.depth≤64 then some ((D.toPs ds).any fun z=>PyData.eqv z x.toQ) else none
    | _,_=>none:=by
 cases y <;> first | (cases h;done) | rfl
theorem Zkc (x y:D):Up fun S=>inD S x y:=by
 by_cases hs:Y1 y=true
 · obtain⟨j,rfl⟩:∃j,y=.str j:=by cases y <;> first | exact⟨_,rfl⟩ | cases hs
   exact .of_eq fun _ _=>rfl
 · have hs:Y1 y=false:=by simpa using hs
   intro S S' hx z e
   have e:inD S x y=some z:=e
   show inD S' x y=some z
   rw[Wm S x hs] at e
   rw[Wm S' x hs]
   cases hd:dicD S y with
   | some kvs=>rw[hd] at e;rw[ZaA hx hd];exact e
   | none=>
     rw[hd] at e
     dsimp only at e
     cases hq:seqD S y with
     | none=>rw[hq] at e;cases e
     | some ds=>
       rw[hq] at e
       have hn:dicD S' y=none:=by
        cases y with
        | obj a=>
          unfold seqD peel at hq
          dsimp only at hq
          cases q:S a with
          | none=>rw[q] at hq;cases hq
          | some u=>
            rw[q] at hq
            cases u with
            | lst es=>unfold dicD;dsimp only;rw[hx a _ q]
            | dic es=>cases hq
            | ins c fs=>cases hq
        | _=>first | rfl | cases hq
       rw[hn,Qb hx hq]
       dsimp only
       cases hp:Zl S x with
       | some p=>rw[hp] at e;rw[Ws hx hp];exact e
       | none=>
         rw[hp] at e
         dsimp only at e
         have hw:x.whole=true:=by
          by_cases z:x.whole=true
          · exact z
          · rw[if_neg (fun a=>z a.1)] at e;cases e
         rw[ZS hw,← ZS (S:=S) hw,hp];exact e
theorem Zd4 (o:CmpOp)(x y:D):Up fun S=>cmpB o S x y:=by
 cases o <;> first | exact up_eq x y | exact(up_eq x y).map | exact Zkc x y | exact(Zkc x y).map | exact .of_eq fun _ _=>rfl
theorem Xr {f:Za→List D→Option D}(h0:∀S,f S []=none)(h2:∀S a b r,f S (a :: b :: r)=none)(h1:∀x,Up fun S=>f S [x]):∀ds,Up fun S=>f S ds
 | []=>.of_eq fun S S'=>by rw[h0,h0]
 | [x]=>h1 x
 | a :: b :: r=>.of_eq fun S S'=>by rw[h2,h2]
theorem Zn8:∀ds,Up fun S=>lenF S ds:=Xr (fun _=>rfl) (fun _ _ _ _=>by unfold lenF;split <;> simp_all) fun x=>match x with
 | .obj a=>.obj a (fun S q=>by simp[lenF,seqD,peel,dicD,q]) (fun S S' u q q'=>by simp only[lenF,seqD,peel,dicD,q,q'])
 | .non | .bl _ | .int _ | .str _ | .tup _ | .lst _ | .dic _ _ | .scr _=>.of_eq fun _ _=>rfl
theorem Zod:∀ds,Up fun S=>tupF S ds:=Xr (fun _=>rfl) (fun _ _ _ _=>rfl) fun x=>(Za8 x).map
theorem Zn9:∀ds,Up fun S=>lstF S ds:=Xr (fun _=>rfl) (fun _ _ _ _=>rfl) fun x=>(Za8 x).map
theorem Zap {α:Type}{r:Za→Option (List D)}{g:List D→Option α}(h:Up r):Up fun S=>match r S with | some xs=>g xs | none=>none:=fun S S' hx z e=>by
 cases q:r S with
 | none=>simp only[q] at e;cases e
 | some u=>simp only[q] at e;simp only[h S S' hx u q];exact e
theorem Zoc:∀ds,Up fun S=>sumF S ds:=Xr (fun _=>rfl) (fun _ _ _ _=>rfl) fun x=>Zap (QF x)
theorem Zn2:∀ds,Up fun S=>allF S ds:=Xr (fun _=>rfl) (fun _ _ _ _=>rfl) fun x=>Zap (QF x)
theorem Zn3:∀ds,Up fun S=>anyF S ds:=Xr (fun _=>rfl) (fun _ _ _ _=>rfl) fun x=>Zap (QF x)
theorem Zin:∀ds,Up fun S=>Yx S ds:=Xr (fun _=>rfl) (fun _ _ _ _=>rfl) fun x=>match x with
 | .obj a=>.obj a (fun S q=>by simp[Yx,seqD,peel,dicD,q]) (fun S S' u q q'=>by simp only[Yx,seqD,peel,dicD,q,q'])
 | .non | .bl _ | .int _ | .str _ | .tup _ | .lst _ | .dic _ _ | .scr _=>.of_eq fun _ _=>rfl
theorem ZlU:∀ds,Up fun S=>Ul S ds:=fun ds=>match ds with
 | [.obj a,.lst []]=>.obj a (fun S q=>by simp[Ul,peel,q]) (fun S S' u q q'=>by simp only[Ul,peel,q,q'])
 | [.non,.lst []] | [.bl _,.lst []] | [.int _,.lst []] | [.str _,.lst []] | [.tup _,.lst []] | [.lst _,.lst []] | [.dic _ _,.lst []] | [.scr _,.lst []]=>.of_eq fun _ _=>rfl
 | []=>.of_eq fun _ _=>rfl
 | [_]=>.of_eq fun _ _=>rfl
 | [_,.lst (_ :: _)] | [_,.non] | [_,.bl _] | [_,.int _] | [_,.str _] | [_,.tup _] | [_,.dic _ _] | [_,.scr _] | [_,.obj _]=>.of_eq fun _ _=>rfl
 | _ :: _ :: _ :: _=>.of_eq fun _ _=>by unfold Ul;split <;> simp_all
theorem ZlS:∀ds,Up fun S=>Wf S ds:=Xr (fun _=>rfl) (fun _ _ _ _=>rfl) fun x S S' hx z e=>by
 have e:Wf S [x]=some z:=e
 show Wf S' [x]=some z
 unfold Wf at e ⊢
 dsimp only at e ⊢
 cases hp:Zl S x with
 | some p=>rw[hp] at e;rw[Ws hx hp];exact e
 | none=>
   rw[hp] at e
   dsimp only at e
   have hw:x.whole=true:=by
    by_cases z:x.whole=true
    · exact z
    · rw[if_neg (fun a=>z a.1)] at e;cases e
   rw[ZS hw,← ZS (S:=S) hw,hp];exact e
theorem ZlM:∀ds,Up fun S=>X9 S ds:=Xr (fun _=>rfl) (fun _ _ _ _=>rfl) fun x=>match x with
 | .obj a=>.obj a (fun S q=>by simp[X9,dicD,seqD,peel,q]) (fun S S' u q q'=>by simp only[X9,dicD,seqD,peel,q,q'])
 | .non | .bl _ | .int _ | .str _ | .tup _ | .lst _ | .dic _ _ | .scr _=>.of_eq fun _ _=>rfl
theorem ZfB (mx:Bool):∀ds,Up fun S=>X6 mx S ds:=Xr (fun _=>rfl) (fun _ _ _ _=>rfl) fun x=>match x with
 | .obj a=>.obj a (fun S q=>by simp[X6,seqD,peel,q]) (fun S S' u q q'=>by simp only[X6,seqD,peel,q,q'])
 | .non | .bl _ | .int _ | .str _ | .tup _ | .lst _ | .dic _ _ | .scr _=>.of_eq fun _ _=>rfl
theorem ZpW (f:Bi)(ds:List D):Up fun S=>biD f S ds:=by
 cases f with
 | len=>exact Zn8 ds
 | tuple=>exact Zod ds
 | list=>exact Zn9 ds
 | sum=>exact Zoc ds
 | all=>exact Zn2 ds
 | any=>exact Zn3 ds
 | sorted=>exact Zin ds
 | repr=>exact ZlS ds
 | dict=>exact ZlM ds
 | min1=>exact ZfB false ds
 | max1=>exact ZfB true ds
 | suml=>exact ZlU ds
 | _=>exact .of_eq fun _ _=>rfl
theorem ZpZ (m:Me)(x:D)(ds:List D):Up fun S=>meD m S x ds:=by
 cases m with
 | join=>
   refine Xr (f:=fun S ds=>meD .join S x ds) (fun _=>rfl) (fun _ _ _ _=>rfl) (fun d=>?_) ds
   cases x with
   | str a=>cases d with
     | obj b=>exact .obj b (fun S q=>by simp[meD,joinM,seqD,peel,q]) (fun S S' u q q'=>by simp only[meD,joinM,seqD,peel,q,q'])
     | _=>exact .of_eq fun _ _=>rfl
   | _=>exact .of_eq fun _ _=>rfl
 | _=>exact .of_eq fun _ _=>rfl
theorem ZlQ (m:Ml):∀x,Ext S S'→mlTy m S x=true→mlTy m S' x=true:=fun x hx h=>by
 have k1:(dicD S x).isSome=true→(dicD S' x).isSome=true:=fun h=>by
  obtain⟨v,e⟩:=Option.isSome_iff_exists.mp h
  rw[ZaA hx e];rfl
 have k2:(peel S x).isSome=true→(peel S' x).isSome=true:=fun h=>by
  obtain⟨v,e⟩:=Option.isSome_iff_exists.mp h
  rw[Zfo hx e];rfl
 cases m <;> first | exact k1 h | exact k2 h | (cases x <;> first | rfl | cases h)
theorem ZlN (k d:D)(x:D):Up fun S=>getM S x k d:=fun S S' hx z e=>by
 have e:getM S x k d=some z:=e
 show getM S' x k d=some z
 unfold getM at e ⊢
 cases q:dicD S x with
 | none=>rw[q] at e;cases e
 | some u=>rw[q] at e;rw[ZaA hx q];exact e
theorem Zim (x y:D):Up fun S=>YA S x y:=fun S S' hx z e=>by
 have e:YA S x y=some z:=e
 show YA S' x y=some z
 unfold YA at e ⊢
 cases q:seqD S x with
 | none=>rw[q] at e;cases e
 | some u=>
   cases q2:Zl S y with
   | none=>rw[q,q2] at e;cases e
   | some v=>rw[q,q2] at e;rw[Qb hx q,Ws hx q2];exact e
theorem Zil (x y:D):Up fun S=>countM S x y:=fun S S' hx z e=>by
 have e:countM S x y=some z:=e
 show countM S' x y=some z
 unfold countM at e ⊢
 cases q:seqD S x with
 | none=>rw[q] at e;cases e
 | some u=>
   cases q2:Zl S y with
   | none=>rw[q,q2] at e;cases e
   | some v=>rw[q,q2] at e;rw[Qb hx q,Ws hx q2];exact e
theorem Zp0 (m:Ml)(x:D)(ds:List D):Up fun S=>mlD m S x ds:=by
 cases m <;> (match ds with | []=>?_ | [a]=>?_ | [a,b]=>?_ | a :: b :: c :: r=>?_) <;> first | exact ZlN _ _ x | exact Zim x _ | exact Zil x _ | exact .of_eq fun _ _=>rfl
theorem ZgC (m:Mu)(ds xs:List D):∀S S',Ext S S'→∀z,muD m S ds xs=some z→muD m S' ds xs=some z:=fun S S' hx z e=>by
 cases m with
 | extend=>
   have e:extM S ds xs=some z:=e
   show extM S' ds xs=some z
   unfold extM at e ⊢
   match xs with
   | []=>cases e
   | _ :: _ :: _=>cases e
   | [y]=>
   cases q:peel S y with
   | none=>simp only[q] at e;cases e
   | some u=>simp only[q] at e;simp only[Zfo hx q];exact e
 | _=>exact e
theorem ZpX:∀ds,Up fun S=>itS S ds:=fun ds=>match ds with
 | []=>.of_eq fun _ _=>rfl
 | [.obj a]=>.obj a (fun S q=>by simp[itS,seqD,peel,q]) (fun S S' u q q'=>by simp only[itS,seqD,peel,q,q'])
 | [.non] | [.bl _] | [.int _] | [.str _] | [.tup _] | [.lst _] | [.dic _ _] | [.scr _]=>.of_eq fun _ _=>rfl
 | _ :: _ :: _=>.of_eq fun S S'=>by unfold itS;split <;> simp_all
theorem Qi (s:Src)(ds:List D):Up fun S=>srcD s S ds:=by
 cases s with
 | it=>exact ZpX ds
 | enum=>
   match ds with
   | []=>exact .of_eq fun _ _=>rfl
   | [d]=>exact(Za8 d).map
   | _ :: _ :: _=>exact .of_eq fun _ _=>rfl
 | zip=>
   match ds with
   | []=>exact .of_eq fun _ _=>rfl
   | [_]=>exact .of_eq fun _ _=>rfl
   | [d,e]=>
     intro S S' hx z h
     have h:(match seqD S d,seqD S e with | some xs,some ys=>some (zipD xs ys) | _,_=>none)=some z:=h
     show(match seqD S' d,seqD S' e with | some xs,some ys=>some (zipD xs ys) | _,_=>none)=some z
     cases q:seqD S d with
     | none=>rw[q] at h;cases h
     | some u=>
       cases q2:seqD S e with
       | none=>rw[q,q2] at h;cases h
       | some v=>rw[q,q2] at h;rw[Qb hx q,Qb hx q2];exact h
   | _ :: _ :: _ :: _=>exact .of_eq fun _ _=>rfl
 | _=>exact .of_eq fun _ _=>rfl
end Vw
namespace Vw
open PySem Sw
def OwnV (S:Za)(d:D)(q:Addr):Prop:=∃mo,moV d=some mo∧S q=some mo
theorem Zn {S:Za}{d:D}{q:Addr}{P:D→Prop}(o:OwnV S d q)(hl:∀ds,S q=some (.lst ds)→P (.lst ds))(hd:∀ks ds,ks.length=ds.length→S q=some (.dic (ks.zip ds))→P (.dic ks ds)):P d:=by
 obtain⟨mo,h1,h2⟩:=o
 unfold moV at h1
 split at h1
 · cases h1;exact hl _ h2
 · split at h1
   · next hz=>cases h1;exact hd _ _ hz h2
   · cases h1
 · cases h1
def VS (S:Za)(pu:Bool)(d d':D):Prop:=d'=d∨∃q,d'=.obj q∧OwnV S d q∧(pu=true→d.pure=true)
def VL (S:Za)(pu:Bool):List D→List D→Prop
 | [],[]=>True
 | d :: ds,d' :: ds'=>VS S pu d d'∧VL S pu ds ds'
 | _,_=>False
section
variable {S:Za}{pu:Bool}{d d' e e' z x y:D}{ds ds':List D}{q:Addr}
theorem Zls {t:Ty}(v:VS S pu d d'){b:Bool}(h:isaD t S d=some b):isaD t S d'=some b:=by
 rcases v with rfl |⟨q,rfl,o,_⟩
 · exact h
 · revert h;refine Zn (P:=fun d=>isaD t S d=some b→isaD t S (.obj q)=some b) o (fun ds hq h=>?_) fun ks ds hz hq h=>?_
   all_goals unfold isaD at h ⊢;simp only[hq];exact h
theorem Zjk {ts:List Ty}(v:VS S pu d d'){b:Bool}(h:YW ts S d=some b):YW ts S d'=some b:=by
 rcases v with rfl |⟨q,rfl,o,_⟩
 · exact h
 · revert h;refine Zn (P:=fun d=>YW ts S d=some b→YW ts S (.obj q)=some b) o (fun ds hq h=>?_) fun ks ds hz hq h=>?_
   all_goals unfold YW isaD at h ⊢;simp only[hq];exact h
theorem Wr (v:VS S pu d d'){b:Bool}(h:truD S d=some b):truD S d'=some b:=by
 rcases v with rfl |⟨q,rfl,o,_⟩
 · exact h
 · revert h;refine Zn (P:=fun d=>truD S d=some b→truD S (.obj q)=some b) o (fun ds hq h=>?_) fun ks ds hz hq h=>?_
   · unfold truD at h ⊢;simp only[hq];exact h
   · cases h
theorem Zlt (v:VS S pu d d'):isNon d'=isNon d:=by
 rcases v with rfl |⟨q,rfl,o,_⟩
 · rfl
 · exact Zn (P:=fun d=>isNon (.obj q)=isNon d) o (fun ds hq=>rfl) fun ks ds hz hq=>rfl
theorem Zlu (v:VS S pu d d')(h:revD S d=some z):revD S d'=some z:=by
 rcases v with rfl |⟨q,rfl,o,_⟩
 · exact h
 · revert h;refine Zn (P:=fun d=>revD S d=some z→revD S (.obj q)=some z) o (fun ds hq h=>?_) fun ks ds hz hq h=>?_
   all_goals unfold revD peel at h ⊢;simp only[hq] <;> exact h
theorem ZnI {lo hi:Option Int}(v:VS S pu d d')(h:slOf S d lo hi=some z):slOf S d' lo hi=some z:=by
 rcases v with rfl |⟨q,rfl,o,_⟩
 · exact h
 · revert h;refine Zn (P:=fun d=>slOf S d lo hi=some z→slOf S (.obj q) lo hi=some z) o (fun ds hq h=>?_) fun ks ds hz hq h=>?_
   all_goals unfold slOf peel at h ⊢;simp only[hq] <;> exact h
theorem ZnE (v:VS S pu d d')(h:ixOf S d y=some z):ixOf S d' y=some z:=by
 rcases v with rfl |⟨q,rfl,o,_⟩
 · exact h
 · revert h;refine Zn (P:=fun d=>ixOf S d y=some z→ixOf S (.obj q) y=some z) o (fun ds hq h=>?_) fun ks ds hz hq h=>?_
   · unfold ixOf at h ⊢;simp only[dicD,seqD,peel,hq] at h ⊢;cases y <;> exact h
   · unfold ixOf at h ⊢;simp only[dicD,seqD,peel,hq] at h ⊢;exact h
theorem Zjm (v:VS S pu d d')(h:YO S d=some z):YO S d'=some z:=by
 rcases v with rfl |⟨q,rfl,o,_⟩
 · exact h
 · revert h;refine Zn (P:=fun d=>YO S d=some z→YO S (.obj q)=some z) o (fun ds hq h=>?_) fun ks ds hz hq h=>?_
   all_goals unfold YO at h ⊢;simp only[seqD,peel,hq] at h ⊢ <;> exact h
theorem Zjr (v:VS S pu d d')(h:YQ S d=some z):YQ S d'=some z:=by
 rcases v with rfl |⟨q,rfl,o,_⟩
 · exact h
 · revert h;refine Zn (P:=fun d=>YQ S d=some z→YQ S (.obj q)=some z) o (fun ds hq h=>?_) fun ks ds hz hq h=>?_
   all_goals unfold YQ at h ⊢;simp only[seqD,peel,hq] at h ⊢ <;> exact h
theorem Zjn {m:Ml}(v:VS S pu d d')(h:mlTy m S d=true):mlTy m S d'=true:=by
 rcases v with rfl |⟨q,rfl,o,_⟩
 · exact h
 · revert h;refine Zn (P:=fun d=>mlTy m S d=true→mlTy m S (.obj q)=true) o (fun ds hq h=>?_) fun ks ds hz hq h=>?_
   all_goals unfold mlTy at h ⊢;cases m <;> simp_all [dicD,peel]
theorem ZnG {m:Ml}(v:VS S pu d d')(h:mlD m S d ds=some z):mlD m S d' ds=some z:=by
 rcases v with rfl |⟨q,rfl,o,_⟩
 · exact h
 · revert h;refine Zn (P:=fun d=>mlD m S d ds=some z→mlD m S (.obj q) ds=some z) o (fun es hq h=>?_) fun ks es hz hq h=>?_
   all_goals
    unfold mlD at h ⊢
    split at h
    · unfold getM at h ⊢;simp only[dicD,hq] at h ⊢ <;> exact h
    · unfold getM at h ⊢;simp only[dicD,hq] at h ⊢ <;> exact h
    · unfold YA at h ⊢;simp only[seqD,peel,hq] at h ⊢ <;> exact h
    · unfold YA at h ⊢;simp only[seqD,peel,hq] at h ⊢ <;> exact h
    · unfold countM at h ⊢;simp only[seqD,peel,hq] at h ⊢ <;> exact h
    · cases h
theorem Zlr (v:VS S pu d d'){kvs:List (L2.Key×D)}(h:dicD S d=some kvs):dicD S d'=some kvs:=by
 rcases v with rfl |⟨q,rfl,o,_⟩
 · exact h
 · revert h;refine Zn (P:=fun d=>dicD S d=some kvs→dicD S (.obj q)=some kvs) o (fun ds hq h=>?_) fun ks ds hz hq h=>?_
   · cases h
   · unfold dicD at h ⊢;simp only[hq];exact h
theorem Zdx (v:VS S pu d d'){ds:List D}(h:peel S d=some ds):peel S d'=some ds:=by
 rcases v with rfl |⟨q,rfl,o,_⟩
 · exact h
 · revert h;refine Zn (P:=fun d=>peel S d=some ds→peel S (.obj q)=some ds) o (fun ds hq h=>?_) fun ks ds hz hq h=>?_
   · unfold peel at h ⊢;simp only[hq];exact h
   · cases h
theorem Xx (v:VS S pu d d'){ds:List D}(h:seqD S d=some ds):seqD S d'=some ds:=by
 rcases v with rfl |⟨q,rfl,o,_⟩
 · exact h
 · revert h;refine Zn (P:=fun d=>seqD S d=some ds→seqD S (.obj q)=some ds) o (fun ds hq h=>?_) fun ks ds hz hq h=>?_
   · unfold seqD peel at h ⊢;simp only[hq];exact h
   · cases h
theorem Ua (v:VS S true d d'):Zl S d'=Zl S d:=by
 rcases v with rfl |⟨q,rfl,o,hp⟩
 · rfl
 · have hp:=hp rfl
   revert hp
   refine Zn (P:=fun d=>d.pure=true→Zl S (.obj q)=Zl S d) o (fun ds hq h=>?_) fun ks ds hz hq h=>?_
   · rw[D.pure] at h;unfold Zl;simp only[hq,Xm ds h,h,if_true]
   · rw[D.pure] at h;cases h
theorem Ud {q:Addr}(o:OwnV S d q)(hp:d.pure=true):∃p,Zl S d=some p:=by
 revert hp
 refine Zn (P:=fun d=>d.pure=true→∃p,Zl S d=some p) o (fun ds hq h=>?_) fun ks ds hz hq h=>?_
 · exact⟨_,We h⟩
 · rw[D.pure] at h;cases h
theorem ZhL (v:VS S true d d')(v':VS S true e e'){b:Bool}(h:eqD S d e=some b):eqD S d' e'=some b:=by
 have key:∀ {d d' e e':D},VS S true d d'→VS S true e e'→(Zl S d'=Zl S d)→(Zl S e'=Zl S e)→eqD S d e=some b→(Zl S d=none→d'=d)→(Zl S e=none→e'=e)→eqD S d' e'=some b:=by
  intro d d' e e' v v' p1 p2 h n1 n2
  unfold eqD at h ⊢
  rw[p1,p2]
  cases q1:Zl S d with
  | none=>rw[q1] at h;rw[n1 q1];cases q2:Zl S e with
    | none=>rw[q2] at h;cases h
    | some y=>rw[q2] at h;exact h
  | some x=>rw[q1] at h;cases q2:Zl S e with
    | none=>rw[q2] at h;rw[n2 q2];exact h
    | some y=>rw[q2] at h;exact h
 refine key v v' (Ua v) (Ua v') h (fun n=>?_) fun n=>?_
 · rcases v with rfl |⟨q,rfl,o,hp⟩
   · rfl
   · obtain⟨p,e⟩:=Ud o (hp rfl);rw[n] at e;cases e
 · rcases v' with rfl |⟨q,rfl,o,hp⟩
   · rfl
   · obtain⟨p,e⟩:=Ud o (hp rfl);rw[n] at e;cases e
theorem Zjl (o:OwnV S d q):keyD d=none:=Zn (P:=fun d=>keyD d=none) o (fun ds hq=>rfl) fun ks ds hz hq=>rfl
theorem Zjq (o:OwnV S d q):Y1 d=false:=Zn (P:=fun d=>Y1 d=false) o (fun ds hq=>rfl) fun ks ds hz hq=>rfl
theorem ZhM (v:VS S true d d')(v':VS S pu e e'){b:Bool}(h:inD S d e=some b):inD S d' e'=some b:=by
 have h1:inD S d' e=some b:=by
  by_cases hs:Y1 e=true
  · obtain⟨j,rfl⟩:∃j,e=.str j:=by cases e <;> first | exact⟨_,rfl⟩ | cases hs
    rcases v with rfl |⟨q,rfl,o,hp⟩
    · exact h
    · revert h;refine Zn (P:=fun d=>inD S d (.str j)=some b→inD S (.obj q) (.str j)=some b) o (fun ds hq h=>?_) fun ks ds hz hq h=>?_ <;> cases h
  · have hs:Y1 e=false:=by simpa using hs
    rw[Wm S _ hs] at h ⊢
    rw[Ua v]
    rcases v with rfl |⟨q,rfl,o,hp⟩
    · exact h
    · cases q1:dicD S e with
      | some kvs=>rw[q1] at h;simp only[Zjl o] at h;cases h
      | none=>
        rw[q1] at h
        obtain⟨p,ep⟩:=Ud o (hp rfl)
        rw[ep] at h ⊢
        cases q2:seqD S e with
        | none=>rw[q2] at h;cases h
        | some ys=>rw[q2] at h;exact h
 rcases v' with rfl |⟨q,rfl,o,hp⟩
 · exact h1
 · rw[Wm S _ (Zjq o)] at h1
   rw[Wm S (y:=.obj q) _ rfl]
   revert h1
   refine Zn (P:=fun e=>(match dicD S e with
    | some kvs=>match keyD d' with | some k=>some (Xv kvs k).isSome | none=>none
    | none=>match seqD S e,Zl S d' with
      | some ds,some p=>if D.pureAll ds=true∧min (PyData.depthAll (D.toPs ds)) p.depth≤64 then some ((D.toPs ds).any fun z=>PyData.eqv z p) else none
      | some ds,none=>if d'.whole=true∧D.pureAll ds=true∧min (PyData.depthAll (D.toPs ds)) d'.toQ.depth≤64 then some ((D.toPs ds).any fun z=>PyData.eqv z d'.toQ) else none
      | _,_=>none)=some b→_) o (fun ds hq h=>?_) fun ks ds hz hq h=>?_
   · simp only[dicD,seqD,peel,hq] at h ⊢;exact h
   · simp only[dicD,seqD,peel,hq] at h ⊢;exact h
theorem Zga (o:OwnV S d q):∀i,d≠.int i:=Zn (P:=fun d=>∀i,d≠.int i) o (fun ds hq i e=>by cases e) fun ks ds hz hq i e=>by cases e
theorem VS.int (v:VS S pu d d'){i:Int}(e:d=.int i):d'=.int i:=by
 rcases v with rfl |⟨q,rfl,o,_⟩
 · exact e
 · exact absurd e (Zga o i)
theorem Zji (v:VS S pu d d')(h:addD S d y=some z):addD S d' y=some z:=by
 rcases v with rfl |⟨q,rfl,o,_⟩
 · exact h
 · revert h;refine Zn (P:=fun d=>addD S d y=some z→addD S (.obj q) y=some z) o (fun ds hq h=>?_) fun ks ds hz hq h=>?_
   · cases y <;> simp_all [addD,peel]
   · cases y <;> simp_all [addD,peel]
theorem Zjj (v:VS S pu d d')(h:addD S x d=some z):addD S x d'=some z:=by
 rcases v with rfl |⟨q,rfl,o,_⟩
 · exact h
 · revert h;refine Zn (P:=fun d=>addD S x d=some z→addD S x (.obj q)=some z) o (fun ds hq h=>?_) fun ks ds hz hq h=>?_
   · cases x <;> simp_all [addD,peel]
   · cases x <;> simp_all [addD,peel]
theorem Zjo (v:VS S pu d d')(h:mulD S d y=some z):mulD S d' y=some z:=by
 rcases v with rfl |⟨q,rfl,o,_⟩
 · exact h
 · revert h;refine Zn (P:=fun d=>mulD S d y=some z→mulD S (.obj q) y=some z) o (fun ds hq h=>?_) fun ks ds hz hq h=>?_
   · cases y <;> simp_all [mulD,peel]
   · cases y <;> simp_all [mulD,peel]
theorem Zjp (v:VS S pu d d')(h:mulD S x d=some z):mulD S x d'=some z:=by
 rcases v with rfl |⟨q,rfl,o,_⟩
 · exact h
 · revert h;refine Zn (P:=fun d=>mulD S x d=some z→mulD S x (.obj q)=some z) o (fun ds hq h=>?_) fun ks ds hz hq h=>?_
   · cases x <;> simp_all [mulD,peel]
   · cases x <;> simp_all [mulD,peel]
theorem Zlq {o:Operator}(v:VS S pu d d')(v':VS S pu e e')(h:binD o S d e=some z):binD o S d' e'=some z:=by
 cases o with
 | Add=>exact Zjj v' (Zji v h)
 | Mult=>exact Zjp v' (Zjo v h)
 | _=>
   have:∃i j,d=.int i∧e=.int j:=by cases d <;> first | (cases h;done) | (cases e <;> first | exact⟨_,_,rfl,rfl⟩ | (cases h;done))
   obtain⟨i,j,e1,e2⟩:=this
   rw[v.int e1,v'.int e2];rw[e1,e2] at h;exact h
theorem one_arg {f:Za→List D→Option D}(h0:∀S,f S []=none)(h2:∀S a b r,f S (a :: b :: r)=none)(h1:∀d d',VS S pu d d'→f S [d]=some z→f S [d']=some z)(v:VL S pu ds ds')(h:f S ds=some z):f S ds'=some z:=by
 match ds,ds',v with
 | [],[],_=>exact h
 | [d],[d'],v=>exact h1 d d' v.1 h
 | a :: b :: r,_,_=>rw[h2] at h;cases h
theorem Zlv (v:VS S pu d d'){x:Str}(e:d=.str x):d'=.str x:=by
 rcases v with rfl |⟨q,rfl,o,_⟩
 · exact e
 · exact absurd e (Zn (P:=fun d=>¬d=.str x) o (fun ds hq e=>by cases e) fun ks ds hz hq e=>by cases e)
theorem ZhK (f:Bi)(v:VL S pu ds ds')(hp:f=.repr→pu=true)(hsl:f≠.suml)(h:biD f S ds=some z):biD f S ds'=some z:=by
 have seq1:∀ {g:List D→Option D} {d d':D},VS S pu d d'→(match seqD S d with | some xs=>g xs | none=>none)=some z→(match seqD S d' with | some xs=>g xs | none=>none)=some z:=by
  intro g d d' v h
  cases q:seqD S d with
  | none=>rw[q] at h;cases h
  | some xs=>rw[q] at h;rw[Xx v q];exact h
 have peel1:∀ {g:List D→Option D} {d d':D},VS S pu d d'→(match peel S d with | some xs=>g xs | none=>none)=some z→(match peel S d' with | some xs=>g xs | none=>none)=some z:=by
  intro g d d' v h
  cases q:peel S d with
  | none=>rw[q] at h;cases h
  | some xs=>rw[q] at h;rw[Zdx v q];exact h
 have two:∀ {f:List D→Option D},(∀d,f [d]=none)→f []=none→(∀a b c r,f (a :: b :: c :: r)=none)→(∀d e,f [d,e]=some z→∃i j,d=.int i∧e=.int j)→f ds=some z→f ds'=some z:=by
  intro f h1 h0 h3 hi h
  match ds,ds',v with
  | [],[],_=>exact h
  | [d],[d'],_=>rw[h1] at h;cases h
  | [a,b],[a',b'],v=>
    obtain⟨i,j,e1,e2⟩:=hi _ _ h
    rw[v.1.int e1,v.2.1.int e2];rw[e1,e2] at h;exact h
  | a :: b :: c :: r,_,_=>rw[h3] at h;cases h
 cases f with
 | len=>exact one_arg (f:=fun S ds=>lenF S ds) (fun _=>rfl) (fun _ _ _ _=>by unfold lenF;split <;> simp_all) (fun d d' v h=>by
   rcases v with rfl |⟨q,rfl,o,_⟩
   · exact h
   · revert h;refine Zn (P:=fun d=>lenF S [d]=some z→lenF S [.obj q]=some z) o (fun ds hq h=>?_) fun ks ds hz hq h=>?_
     · unfold lenF at h ⊢;simp only[seqD,peel,hq] at h ⊢;exact h
     · unfold lenF at h ⊢;simp only[seqD,peel,dicD,hq] at h ⊢;exact h) v h
 | tuple=>exact one_arg (f:=fun S ds=>tupF S ds) (fun _=>rfl) (fun _ _ _ _=>rfl) (fun d d' v h=>by
   unfold tupF at h ⊢;dsimp only at h ⊢
   cases q:seqD S d with
   | none=>rw[q] at h;cases h
   | some xs=>rw[q] at h;rw[Xx v q];exact h) v h
 | list=>exact one_arg (f:=fun S ds=>lstF S ds) (fun _=>rfl) (fun _ _ _ _=>rfl) (fun d d' v h=>by
   unfold lstF at h ⊢;dsimp only at h ⊢
   cases q:seqD S d with
   | none=>rw[q] at h;cases h
   | some xs=>rw[q] at h;rw[Xx v q];exact h) v h
 | sum=>exact one_arg (f:=fun S ds=>sumF S ds) (fun _=>rfl) (fun _ _ _ _=>rfl) (fun d d' v h=>peel1 v h) v h
 | all=>exact one_arg (f:=fun S ds=>allF S ds) (fun _=>rfl) (fun _ _ _ _=>rfl) (fun d d' v h=>peel1 v h) v h
 | any=>exact one_arg (f:=fun S ds=>anyF S ds) (fun _=>rfl) (fun _ _ _ _=>rfl) (fun d d' v h=>peel1 v h) v h
 | suml=>exact(hsl rfl).elim
 | sorted=>exact one_arg (f:=fun S ds=>Yx S ds) (fun _=>rfl) (fun _ _ _ _=>rfl) (fun d d' v h=>by
   rcases v with rfl |⟨q,rfl,o,_⟩
   · exact h
   · revert h;refine Zn (P:=fun d=>Yx S [d]=some z→Yx S [.obj q]=some z) o (fun ds hq h=>?_) fun ks ds hz hq h=>?_
     · unfold Yx at h ⊢;simp only[seqD,peel,hq] at h ⊢;exact h
     · unfold Yx at h ⊢;simp only[seqD,peel,dicD,hq] at h ⊢;exact h) v h
 | dict=>exact one_arg (f:=fun S ds=>X9 S ds) (fun _=>rfl) (fun _ _ _ _=>rfl) (fun d d' v h=>by
   rcases v with rfl |⟨q,rfl,o,_⟩
   · exact h
   · revert h;refine Zn (P:=fun d=>X9 S [d]=some z→X9 S [.obj q]=some z) o (fun ds hq h=>?_) fun ks ds hz hq h=>?_
     · unfold X9 at h ⊢;simp only[dicD,seqD,peel,hq] at h ⊢;exact h
     · unfold X9 at h ⊢;simp only[seqD,peel,dicD,hq] at h ⊢;exact h) v h
 | min1=>exact one_arg (f:=fun S ds=>X6 false S ds) (fun _=>rfl) (fun _ _ _ _=>rfl) (fun d d' v h=>by
   unfold X6 at h ⊢;dsimp only at h ⊢
   cases q:seqD S d with
   | none=>rw[q] at h;cases h
   | some xs=>rw[q] at h;rw[Xx v q];exact h) v h
 | max1=>exact one_arg (f:=fun S ds=>X6 true S ds) (fun _=>rfl) (fun _ _ _ _=>rfl) (fun d d' v h=>by
   unfold X6 at h ⊢;dsimp only at h ⊢
   cases q:seqD S d with
   | none=>rw[q] at h;cases h
   | some xs=>rw[q] at h;rw[Xx v q];exact h) v h
 | repr=>exact one_arg (f:=fun S ds=>Wf S ds) (fun _=>rfl) (fun _ _ _ _=>rfl) (fun d d' v h=>by
   have e:=hp rfl
   subst e
   have ep:=Ua v
   unfold Wf at h ⊢
   dsimp only at h ⊢
   rw[ep]
   rcases v with rfl |⟨q,rfl,o,hpu⟩
   · exact h
   · obtain⟨p,e⟩:=Ud o (hpu rfl)
     rw[e] at h ⊢
     exact h) v h
 | abs=>exact one_arg (f:=fun S ds=>absF ds) (fun _=>rfl) (fun _ a _ _=>by cases a <;> rfl) (fun d d' v h=>by
   rcases v with rfl |⟨q,rfl,o,_⟩
   · exact h
   · revert h;refine Zn (P:=fun d=>absF [d]=some z→_) o (fun ds hq h=>?_) fun ks ds hz hq h=>?_ <;> cases h) v h
 | int=>exact one_arg (f:=fun S ds=>intF ds) (fun _=>rfl) (fun _ a _ _=>by cases a <;> rfl) (fun d d' v h=>by
   rcases v with rfl |⟨q,rfl,o,_⟩
   · exact h
   · revert h;refine Zn (P:=fun d=>intF [d]=some z→_) o (fun ds hq h=>?_) fun ks ds hz hq h=>?_ <;> cases h) v h
 | str=>exact one_arg (f:=fun S ds=>strF ds) (fun _=>rfl) (fun _ a _ _=>by cases a <;> rfl) (fun d d' v h=>by
   rcases v with rfl |⟨q,rfl,o,_⟩
   · exact h
   · revert h;refine Zn (P:=fun d=>strF [d]=some z→_) o (fun ds hq h=>?_) fun ks ds hz hq h=>?_ <;> cases h) v h
 | lrange1=>exact one_arg (f:=fun S ds=>W3 ds) (fun _=>rfl) (fun _ a _ _=>by cases a <;> rfl) (fun d d' v h=>by
   rcases v with rfl |⟨q,rfl,o,_⟩
   · exact h
   · revert h;refine Zn (P:=fun d=>W3 [d]=some z→_) o (fun ds hq h=>?_) fun ks ds hz hq h=>?_ <;> cases h) v h
 | min2=>exact two (f:=minF) (fun d=>by cases d <;> rfl) rfl (fun a b c r=>by cases a <;> cases b <;> rfl) (fun d e h=>by cases d <;> cases e <;> first | exact⟨_,_,rfl,rfl⟩ | cases h) h
 | max2=>exact two (f:=maxF) (fun d=>by cases d <;> rfl) rfl (fun a b c r=>by cases a <;> cases b <;> rfl) (fun d e h=>by cases d <;> cases e <;> first | exact⟨_,_,rfl,rfl⟩ | cases h) h
 | lrange2=>exact two (f:=V7) (fun d=>by cases d <;> rfl) rfl (fun a b c r=>by cases a <;> cases b <;> rfl) (fun d e h=>by cases d <;> cases e <;> first | exact⟨_,_,rfl,rfl⟩ | cases h) h
theorem ZnF (m:Me)(v:VL S pu ds ds')(h:meD m S x ds=some z):meD m S x ds'=some z:=by
 have sts1:∀ {f:D→List D→Option D},f x []=none→(∀a b r,f x (a :: b :: r)=none)→(∀d,f x [d]=some z→∃s,d=.str s)→f x ds=some z→f x ds'=some z:=by
  intro f h0 h2 h1 h
  match ds,ds',v with
  | [],[],_=>exact h
  | [d],[d'],v=>
    obtain⟨s,e⟩:=h1 d h
    rw[Zlv v.1 e];rw[e] at h;exact h
  | a :: b :: r,_,_=>rw[h2] at h;cases h
 cases m with
 | join=>exact one_arg (f:=fun S ds=>joinM S x ds) (fun _=>rfl) (fun _ _ _ _=>rfl) (fun d d' v h=>by
   unfold joinM at h ⊢
   dsimp only at h ⊢
   cases q:seqD S d with
   | none=>rw[q] at h;split at h <;> simp_all
   | some xs=>rw[q] at h;rw[Xx v q];exact h) v h
 | sindex=>exact sts1 (f:=WW) rfl (fun a b r=>by cases a <;> rfl) (fun d h=>by cases d <;> first | exact⟨_,rfl⟩ | cases h) h
 | split=>exact sts1 (f:=splitM) rfl (fun a b r=>by cases a <;> rfl) (fun d h=>by cases d <;> first | exact⟨_,rfl⟩ | cases h) h
 | partition=>exact sts1 (f:=ZcD) rfl (fun a b r=>by cases a <;> rfl) (fun d h=>by cases d <;> first | exact⟨_,rfl⟩ | cases h) h
theorem ZnD (v:VL S pu ds ds'){its:List D}(h:itS S ds=some its):itS S ds'=some its:=by
 match ds,ds',v with
 | [],[],_=>exact h
 | [d],[d'],v=>
   rcases v.1 with rfl |⟨q,rfl,o,_⟩
   · exact h
   · revert h;refine Zn (P:=fun d=>itS S [d]=some its→itS S [.obj q]=some its) o (fun ds hq h=>?_) fun ks ds hz hq h=>?_
     · unfold itS at h ⊢;simp only[seqD,peel,hq] at h ⊢;exact h
     · cases h
 | a :: b :: r,_,_=>exfalso;revert h;unfold itS;split <;> simp_all
theorem VB (s:Src)(hs:s≠.keys)(v:VL S pu ds ds'){its:List D}(h:srcD s S ds=some its):srcD s S ds'=some its:=by
 cases s with
 | keys=>exact(hs rfl).elim
 | it=>exact ZnD v h
 | rng1=>
   match ds,ds',v with
   | [],[],_=>exact h
   | [d],[d'],v=>
     have:∃i,d=.int i:=by cases d <;> first | exact⟨_,rfl⟩ | cases h
     obtain⟨i,e⟩:=this
     rw[v.1.int e];rw[e] at h;exact h
   | a :: b :: r,_,_=>exfalso;cases a <;> cases h
 | rng2=>
   match ds,ds',v with
   | [],[],_=>exact h
   | [d],[d'],v=>exfalso;cases d <;> cases h
   | [a,b],[a',b'],v=>
     have:∃i j,a=.int i∧b=.int j:=by cases a <;> cases b <;> first | exact⟨_,_,rfl,rfl⟩ | cases h
     obtain⟨i,j,e1,e2⟩:=this
     rw[v.1.int e1,v.2.1.int e2];rw[e1,e2] at h;exact h
   | a :: b :: c :: r,_,_=>exfalso;cases a <;> cases b <;> cases h
 | enum=>
   match ds,ds',v with
   | [],[],_=>exact h
   | [d],[d'],v=>
     have h:(seqD S d).map (WP 0)=some its:=h
     show(seqD S d').map (WP 0)=some its
     cases q:seqD S d with
     | none=>rw[q] at h;cases h
     | some xs=>rw[q] at h;rw[Xx v.1 q];exact h
   | a :: b :: r,_,_=>cases h
 | zip=>
   match ds,ds',v with
   | [],[],_=>exact h
   | [d],[d'],v=>cases h
   | [a,b],[a',b'],v=>
     have h:(match seqD S a,seqD S b with | some xs,some ys=>some (zipD xs ys) | _,_=>none)=some its:=h
     show(match seqD S a',seqD S b' with | some xs,some ys=>some (zipD xs ys) | _,_=>none)=some its
     cases q:seqD S a with
     | none=>rw[q] at h;cases h
     | some xs=>
       cases q2:seqD S b with
       | none=>rw[q,q2] at h;cases h
       | some ys=>rw[q,q2] at h;rw[Xx v.1 q,Xx v.2.1 q2];exact h
   | a :: b :: c :: r,_,_=>cases h
theorem ZnH (m:Mu)(v:VL S pu ds ds'){es:List D}{r:D×List D}(hm:m=.extend)(h:muD m S es ds=some r):muD m S es ds'=some r:=by
 subst hm
 match ds,ds',v with
 | [],[],_=>exact h
 | [d],[d'],v=>
   have h:(match peel S d with | some ys=>if es.length+ys.length≤sizeLine then some (D.non,es++ys) else none | none=>none)=some r:=h
   show(match peel S d' with | some ys=>if es.length+ys.length≤sizeLine then some (D.non,es++ys) else none | none=>none)=some r
   cases q:peel S d with
   | none=>rw[q] at h;cases h
   | some xs=>rw[q] at h;rw[Zdx v.1 q];exact h
 | a :: b :: r,_,_=>cases h
end
end Vw
namespace Vw
open PySem Sw
structure SimW (w:W)(S:Za):Prop where
 ext:Ext w.S S
 pen:∀p,w.pen=some p→w.S p=none∧∃o k,S p=some o∧PenO o k∧k+w.b≤2 ^ 40
def Frame (S:Za)(w:W)(S1:Za)(w1:W):Prop:=∀a u,S a=some u→w.S a=none→w.pen≠some a→S1 a=some u∧w1.S a=none∧w1.pen≠some a
structure Nx (S:Za)(w:W)(S1:Za)(w1:W):Prop where
 sim:SimW w1 S1
 fr:Frame S w S1 w1
theorem Nx.refl {S:Za}{w:W}(h:SimW w S):Nx S w S w:=⟨h,fun _ _ a b c=>⟨a,b,c⟩⟩
theorem Nx.trans {S S1 S2:Za}{w w1 w2:W}(h:Nx S w S1 w1)(h':Nx S1 w1 S2 w2):Nx S w S2 w2:=⟨h'.sim,fun a u e n p=>by
 obtain⟨e1,n1,p1⟩:=h.fr a u e n p
 exact h'.fr a u e1 n1 p1⟩
structure Sim (P:Addr→Prop)(ρ:PEnv)(ρ':DEnv)(w:W)(S:Za):Prop where
 len:ρ'.length=ρ.length
 pl:∀(i:Nat)(d:D),ρ[i]?=some (some (false,d))→ρ'[i]?=some (some d)
 ow:∀(i:Nat)(d:D),ρ[i]?=some (some (true,d))→∃q,ρ'[i]?=some (some (.obj q))∧OwnV S d q∧w.S q=none∧w.pen≠some q∧P q
 ds:∀(i j:Nat)(d e:D)(q:Addr),i≠j→ρ[i]?=some (some (true,d))→ρ[j]?=some (some (true,e))→ρ'[i]?=some (some (.obj q))→ρ'[j]?≠some (some (.obj q))
 sw:SimW w S
theorem Sim.next {P:Addr→Prop}{ρ:PEnv}{ρ':DEnv}{w w1:W}{S S1:Za}(h:Sim P ρ ρ' w S)(n:Nx S w S1 w1):Sim P ρ ρ' w1 S1:=
 ⟨h.len,h.pl,fun i d e=>by
  obtain⟨q,e1,⟨mo,m1,m2⟩,n1,p1,pq⟩:=h.ow i d e
  obtain⟨e2,n2,p2⟩:=n.fr q mo m2 n1 p1
  exact⟨q,e1,⟨mo,m1,e2⟩,n2,p2,pq⟩,h.ds,n.sim⟩
def VR (md:Md)(ρ:PEnv)(ρ':DEnv)(d d':D):Prop:=d'=d∨(match md with | .ex=>False | _=>True)∧∃(i:Nat) (q:Addr),ρ[i]?=some (some (true,d))∧ρ'[i]?=some (some (D.obj q))∧d'=D.obj q∧(match md with | .pu=>d.pure=true | _=>True)
theorem VR.ex {ρ:PEnv}{ρ':DEnv}{d d':D}(v:VR .ex ρ ρ' d d'):d'=d:=by
 rcases v with h |⟨h,_⟩
 · exact h
 · exact h.elim
theorem VR.refl {md:Md}{ρ:PEnv}{ρ':DEnv}{d:D}:VR md ρ ρ' d d:=.inl rfl
theorem VR.own {P:Addr→Prop}{md:Md}{ρ:PEnv}{ρ':DEnv}{w:W}{S:Za}{d d':D}(v:VR md ρ ρ' d d')(sm:Sim P ρ ρ' w S):VS S false d d':=by
 rcases v with h |⟨_,i,q,e1,e2,e3,_⟩
 · exact .inl h
 · obtain⟨q',f1,f2,_⟩:=sm.ow i d e1
   rw[e2] at f1;cases f1
   exact .inr ⟨q,e3,f2,fun z=>by cases z⟩
theorem VR.ownP {P:Addr→Prop}{ρ:PEnv}{ρ':DEnv}{w:W}{S:Za}{d d':D}(v:VR .pu ρ ρ' d d')(sm:Sim P ρ ρ' w S):VS S true d d':=by
 rcases v with h |⟨_,i,q,e1,e2,e3,hp⟩
 · exact .inl h
 · obtain⟨q',f1,f2,_⟩:=sm.ow i d e1
   rw[e2] at f1;cases f1
   exact .inr ⟨q,e3,f2,fun _=>hp⟩
def VRs (md:Md)(ρ:PEnv)(ρ':DEnv):List D→List D→Prop
 | [],[]=>True
 | d :: ds,d' :: ds'=>VR md ρ ρ' d d'∧VRs md ρ ρ' ds ds'
 | _,_=>False
theorem VRs.ex {ρ:PEnv}{ρ':DEnv}:∀ {ds ds':List D},VRs .ex ρ ρ' ds ds'→ds'=ds
 | [],[],_=>rfl
 | d :: ds,d' :: ds',v=>by rw[v.1.ex,VRs.ex v.2]
theorem VRs.own {P:Addr→Prop}{md:Md}{ρ:PEnv}{ρ':DEnv}{w:W}{S:Za}(sm:Sim P ρ ρ' w S):∀ {ds ds':List D},VRs md ρ ρ' ds ds'→VL S false ds ds'
 | [],[],_=>trivial
 | d :: ds,d' :: ds',v=>⟨v.1.own sm,VRs.own sm v.2⟩
theorem VRs.ownP {P:Addr→Prop}{ρ:PEnv}{ρ':DEnv}{w:W}{S:Za}(sm:Sim P ρ ρ' w S):∀ {ds ds':List D},VRs .pu ρ ρ' ds ds'→VL S true ds ds'
 | [],[],_=>trivial
 | d :: ds,d' :: ds',v=>⟨v.1.ownP sm,VRs.ownP sm v.2⟩
structure Fits (G:Cfg)(C:CT)(kn:Str→Str→Bool)(Γ:Gam):Prop where
 gl:∀x d,G.gl x=some d→Γ.gl x d
 fl:∀c f,G.fl c f=true→Γ.fld c f
 fn:∀f,kn "" f=true→∃sp,Γ.fn f sp∧∀ds w S Q Q',SimW w S→C "" f ds w Q→(∀d w1 S1,Q d w1→Nx S w S1 w1→Q' d S1)→sp ds S Q'
 me:∀c m,G.me c m=true→∃sp,Γ.me c m sp∧∀ds w S Q Q',SimW w S→C c m ds w Q→(∀d w1 S1,Q d w1→Nx S w S1 w1→Q' d S1)→sp ds S Q'
 ini:∀c,kn c "__init__" = true→∃sp,Γ.ini c sp∧∀ds w S Q Q',SimW w S→C c "__init__" ds w Q→(∀d w1 S1,Q d w1→Nx S w S1 w1→Q' d S1)→sp ds S Q'
mutual
def kE (kn:Str→Str→Bool):M→Bool
 | .bin _ a b=>kE kn a && kE kn b
 | .neg a=>kE kn a
 | .cmp _ a b=>kE kn a && kE kn b
 | .chain _ _ a b c=>kE kn a && kE kn b && kE kn c
 | .isn _ a=>kE kn a
 | .isb _ _ a=>kE kn a
 | .and a b=>kE kn a && kE kn b
 | .or a b=>kE kn a && kE kn b
 | .not a=>kE kn a
 | .ite c a b=>kE kn c && kE kn a && kE kn b
 | .tup as=>kEs kn as
 | .lst as=>kEs kn as
 | .dct _ as=>kEs kn as
 | .isa _ a=>kE kn a
 | .bi _ as=>kEs kn as
 | .ix a i=>kE kn a && kE kn i
 | .sl _ _ a as=>kE kn a && kEs kn as
 | .call f as=>kn "" f && kEs kn as
 | .comp _ as _ _ cs el=>kEs kn as && kEs kn cs && kE kn el
 | .meth _ o as=>kE kn o && kEs kn as
 | .own a=>kE kn a
 | .frz a=>kE kn a
 | .rev a=>kE kn a
 | .isat _ a=>kE kn a
 | .lset a=>kE kn a
 | .sset a=>kE kn a
 | .at a _=>kE kn a
 | .tel _ o as=>kE kn o && kEs kn as
 | .mutv _ o as=>kE kn o && kEs kn as
 | .mcall o _ as=>kE kn o && kEs kn as
 | .mk c as=>kn c "__init__" && kEs kn as
 | .lk _ a=>kE kn a
 | _=>true
def kEs (kn:Str→Str→Bool):Ms→Bool
 | .nil=>true
 | .cons a r=>kE kn a && kEs kn r
end
section
variable {P:Addr→Prop}{ρ:PEnv}{ρ':DEnv}{w w1:W}{S S1:Za}
theorem Sim.set (h:Sim P ρ ρ' w S)(i:Nat)(d:D):Sim P (ρ.set i (some (false,d))) (ρ'.set i (some d)) w S:=by
 have ne:∀ {j:Nat} {e:D},(ρ.set i (some (false,d)))[j]?=some (some (true,e))→i≠j∧ρ[j]?=some (some (true,e)):=by
  intro j e hj
  rw[List.getElem?_set] at hj
  split at hj
  · next hi=>split at hj <;> cases hj
  · next hi=>exact⟨hi,hj⟩
 refine⟨by rw[List.length_set,List.length_set,h.len],fun j e hj=>?_,fun j e hj=>?_,fun j k e f q hjk hj hk hq=>?_,h.sw⟩
 · rw[List.getElem?_set] at hj ⊢
   split at hj
   · next hi=>
     subst hi
     split at hj
     · next hl=>cases hj;rw[if_pos rfl,if_pos (by rw[h.len];exact hl)]
     · cases hj
   · next hi=>rw[if_neg hi];exact h.pl j e hj
 · obtain⟨hi,hj⟩:=ne hj
   obtain⟨q,e1,r⟩:=h.ow j e hj
   exact⟨q,by rw[List.getElem?_set_ne hi];exact e1,r⟩
 · obtain⟨hi,hj⟩:=ne hj
   obtain⟨hi2,hk⟩:=ne hk
   rw[List.getElem?_set_ne hi] at hq
   rw[List.getElem?_set_ne hi2]
   exact h.ds j k e f q hjk hj hk hq
theorem Sim.wipe1 (h:Sim P ρ ρ' w S)(i:Nat):Sim P (ρ.set i none) (ρ'.set i none) w S:=by
 have ne:∀ {j:Nat} {b:Bool} {e:D},(ρ.set i none)[j]?=some (some (b,e))→i≠j∧ρ[j]?=some (some (b,e)):=by
  intro j b e hj
  rw[List.getElem?_set] at hj
  split at hj
  · next hi=>split at hj <;> cases hj
  · next hi=>exact⟨hi,hj⟩
 refine⟨by rw[List.length_set,List.length_set,h.len],fun j e hj=>?_,fun j e hj=>?_,fun j k e f q hjk hj hk hq=>?_,h.sw⟩
 · obtain⟨hi,hj⟩:=ne hj
   rw[List.getElem?_set_ne hi];exact h.pl j e hj
 · obtain⟨hi,hj⟩:=ne hj
   obtain⟨q,e1,r⟩:=h.ow j e hj
   exact⟨q,by rw[List.getElem?_set_ne hi];exact e1,r⟩
 · obtain⟨hi,hj⟩:=ne hj
   obtain⟨hi2,hk⟩:=ne hk
   rw[List.getElem?_set_ne hi] at hq
   rw[List.getElem?_set_ne hi2]
   exact h.ds j k e f q hjk hj hk hq
theorem Sim.wipe (h:Sim P ρ ρ' w S):∀is:List Nat,Sim P (Yt ρ is) (wipeD ρ' is) w S
 | []=>h
 | i :: is=>by unfold Yt wipeD;exact(h.wipe is).wipe1 i
theorem Sim.setV:∀(tg:Tg)(d:D)(ρ ρ1:PEnv)(ρ':DEnv),Sim P ρ ρ' w S→Vw.setV tg d ρ=some ρ1→∃ρ1',setT tg d ρ'=some ρ1'∧Sim P ρ1 ρ1' w S
 | .nm i,d,ρ,ρ1,ρ',s,h=>by rw[Vw.setV] at h;cases h;exact⟨_,by rw[setT],s.set i d⟩
 | .tp a r,d,ρ,ρ1,ρ',s,h=>by
   cases d with
   | tup ds=>
     rw[Vw.setV] at h
     obtain⟨ρ1',e,s'⟩:=go (.tp a r) ds ρ ρ1 ρ' s h
     exact⟨ρ1',by rw[setT];exact e,s'⟩
   | _=>rw[Vw.setV] at h <;> first | cases h | simp
 | .nil,d,ρ,ρ1,ρ',s,h=>by rw[Vw.setV] at h <;> first | cases h | simp
where go:∀(tg:Tg)(ds:List D)(ρ ρ1:PEnv)(ρ':DEnv),Sim P ρ ρ' w S→ZJ tg ds ρ=some ρ1→∃ρ1',Ya tg ds ρ'=some ρ1'∧Sim P ρ1 ρ1' w S
 | .tp a r,[],ρ,ρ1,ρ',s,h=>by rw[ZJ] at h <;> first | cases h | simp
 | .tp a r,d :: ds,ρ,ρ1,ρ',s,h=>by
   rw[ZJ] at h
   cases e:Vw.setV a d ρ with
   | none=>rw[e] at h;cases h
   | some ρ2=>
     rw[e] at h
     obtain⟨ρ2',e2,s2⟩:=Sim.setV a d ρ ρ2 ρ' s e
     obtain⟨ρ1',e1,s1⟩:=go r ds ρ2 ρ1 ρ2' s2 h
     exact⟨ρ1',by rw[Ya,e2];exact e1,s1⟩
 | .nil,[],ρ,ρ1,ρ',s,h=>by rw[ZJ] at h;cases h;exact⟨ρ',by rw[Ya],s⟩
 | .nil,_ :: _,ρ,ρ1,ρ',s,h=>by rw[ZJ] at h <;> first | cases h | simp
 | .nm _,_,ρ,ρ1,ρ',s,h=>by rw[ZJ] at h <;> first | cases h | simp
theorem SimW.put {q:Addr}{mo:MO}(h:SimW w S)(hq:S q=none):Nx S w (sput S q mo) { w with S:=sput w.S q mo }:=by
 have pq:w.pen≠some q:=fun e=>by obtain⟨_,o,k,e1,_⟩:=h.pen q e;rw[hq] at e1;cases e1
 refine⟨⟨fun a u e=>?_,fun p hp=>?_⟩,fun a u e n p=>?_⟩
 · by_cases ha:a=q
   · subst ha;have e:sput w.S a _ a=some u:=e;rw[Zq] at e ⊢;exact e
   · rw[Zo ha];exact h.ext a u (by
     have:sput w.S q mo a=some u:=e
     rw[Zo ha] at this;exact this)
 · obtain⟨n,o,k,e1,e2,e3⟩:=h.pen p hp
   have:p≠q:=fun z=>pq (z▸hp)
   exact⟨by show sput w.S q mo p=none;rw[Zo this];exact n,o,k,by rw[Zo this];exact e1,e2,e3⟩
 · have:a≠q:=fun z=>by rw[z,hq] at e;cases e
   exact⟨by rw[Zo this];exact e,by show sput w.S q mo a=none;rw[Zo this];exact n,p⟩
theorem SimW.wr {q:Addr}{mo mo':MO}(h:SimW w S)(hq:w.S q=some mo):Nx S w (sput S q mo') { w with S:=sput w.S q mo' }:=by
 have pq:w.pen≠some q:=fun e=>by obtain⟨n,_⟩:=h.pen q e;rw[hq] at n;cases n
 refine⟨⟨fun a u e=>?_,fun p hp=>?_⟩,fun a u e n p=>?_⟩
 · by_cases ha:a=q
   · subst ha;have e:sput w.S a _ a=some u:=e;rw[Zq] at e ⊢;exact e
   · rw[Zo ha];exact h.ext a u (by
     have:sput w.S q mo' a=some u:=e
     rw[Zo ha] at this;exact this)
 · obtain⟨n,o,k,e1,e2,e3⟩:=h.pen p hp
   have:p≠q:=fun z=>pq (z▸hp)
   exact⟨by show sput w.S q mo' p=none;rw[Zo this];exact n,o,k,by rw[Zo this];exact e1,e2,e3⟩
 · have:a≠q:=fun z=>by rw[z,hq] at n;cases n
   exact⟨by rw[Zo this];exact e,by show sput w.S q mo' a=none;rw[Zo this];exact n,p⟩
theorem SimW.del {q:Addr}{mo:MO}(h:SimW w S)(hq:w.S q=some mo):Nx S w (sdel S q) { w with S:=sdel w.S q }:=by
 have pq:w.pen≠some q:=fun e=>by obtain⟨n,_⟩:=h.pen q e;rw[hq] at n;cases n
 refine⟨⟨fun a u e=>?_,fun p hp=>?_⟩,fun a u e n p=>?_⟩
 · have e:sdel w.S q a=some u:=e
   by_cases ha:a=q
   · subst ha;rw[U8] at e;cases e
   · rw[Xz ha] at e ⊢;exact h.ext a u e
 · obtain⟨n,o,k,e1,e2,e3⟩:=h.pen p hp
   have:p≠q:=fun z=>pq (z▸hp)
   exact⟨by show sdel w.S q p=none;rw[Xz this];exact n,o,k,by rw[Xz this];exact e1,e2,e3⟩
 · have:a≠q:=fun z=>by rw[z,hq] at n;cases n
   exact⟨by rw[Xz this];exact e,by show sdel w.S q a=none;rw[Xz this];exact n,p⟩
theorem Zhf {s:Src}{ds its:List D}(h:ds.any Zy=false)(e:srcD s S ds=some its):srcD s S1 ds=some its:=by
 have one:∀ {d:D},Zy d=false→seqD S d=seqD S1 d:=by intro d hd;cases d <;> first | rfl | cases hd
 cases s with
 | it=>
   have e:itS S ds=some its:=e
   show itS S1 ds=some its
   match ds with
   | []=>exact e
   | [d]=>
     have hd:Zy d=false:=by simpa using h
     cases d <;> first | exact e | cases hd
   | a :: b :: r=>exfalso;revert e;unfold itS;split <;> simp_all
 | enum=>
   match ds with
   | []=>exact e
   | [d]=>
     have e:(seqD S d).map (WP 0)=some its:=e
     show(seqD S1 d).map (WP 0)=some its
     rw[← one (by simpa using h)];exact e
   | a :: b :: r=>exact e
 | zip=>
   match ds with
   | []=>exact e
   | [d]=>exact e
   | [a,b]=>
     have e:(match seqD S a,seqD S b with | some xs,some ys=>some (zipD xs ys) | _,_=>none)=some its:=e
     show(match seqD S1 a,seqD S1 b with | some xs,some ys=>some (zipD xs ys) | _,_=>none)=some its
     simp at h
     rw[← one h.1,← one h.2];exact e
   | a :: b :: c :: r=>exact e
 | _=>exact e
theorem Zd0 {s:Src}{ds its:List D}(h:stab s ds its w1)(e:srcD s w.S ds=some its):srcD s w1.S ds=some its:=by
 unfold stab at h
 split at h
 · exact h
 · next ho=>exact Zhf (by simpa using ho) e
end
end Vw
namespace Vw
open PySem Sw
section
variable {G:Cfg}{C:CT}{kn:Str→Str→Bool}{Γ:Gam}
def EOk (G:Cfg)(C:CT)(Γ:Gam)(md:Md)(e:M):Prop:=∀(P:Addr→Prop) ρ ρ' w S Q Q',Sim P ρ ρ' w S→xE G C md e ρ w Q→(∀d d' w1 S1,Q d w1→VR md ρ ρ' d d'→Nx S w S1 w1→Q' d' S1)→wE Γ e ρ' S Q'
def EsOk (G:Cfg)(C:CT)(Γ:Gam)(md:Md)(as:Ms):Prop:=∀(P:Addr→Prop) ρ ρ' w S Q Q',Sim P ρ ρ' w S→xEs G C md as ρ w Q→(∀ds ds' w1 S1,Q ds w1→VRs md ρ ρ' ds ds'→Nx S w S1 w1→Q' ds' S1)→wEs Γ as ρ' S Q'
def IsOk (G:Cfg)(C:CT)(Γ:Gam)(as:Ms):Prop:=∀(P:Addr→Prop) ρ ρ' w S Q Q',Sim P ρ ρ' w S→xIs G C as ρ w Q→(∀is w1 S1,Q is w1→Nx S w S1 w1→Q' is S1)→wIs Γ as ρ' S Q'
def TsOk (G:Cfg)(C:CT)(Γ:Gam)(as:Ms):Prop:=∀(P:Addr→Prop) ρ ρ' w S Q Q',Sim P ρ ρ' w S→xTs G C as ρ w Q→(∀t w1 S1,Q t w1→Nx S w S1 w1→Q' t S1)→wTs Γ as ρ' S Q'
theorem Zm {P:Addr→Prop}{md md':Md}{a e:M}(ih:EOk G C Γ md' a){ρ:PEnv}{ρ':DEnv}{w:W}{S:Za}{R:D→W→Prop}{R':D→Za→Prop}(sm:Sim P ρ ρ' w S)(h:xE G C md' a ρ w R)(k:∀d d' w1 S1,R d w1→VR md' ρ ρ' d d'→Nx S w S1 w1→Sim P ρ ρ' w1 S1→R' d' S1):wE Γ a ρ' S R':=
 ih P ρ ρ' w S R R' sm h fun d d' w1 S1 r v n=>k d d' w1 S1 r v n (sm.next n)
theorem Xw {f:Za→Option D}{f':Za→Option D}{w:W}{S:Za}{P P':D→Prop}(h:optD (f w.S) P)(up:∀z,f w.S=some z→f' S=some z)(k:∀z,P z→P' z):optD (f' S) P':=by
 cases e:f w.S with
 | none=>rw[e] at h;exact h.elim
 | some z=>rw[e] at h;rw[up z e];exact k z h
theorem YE {f:Za→Option Bool}{f':Za→Option Bool}{w:W}{S:Za}{P P':Bool→Prop}(h:optB (f w.S) P)(up:∀z,f w.S=some z→f' S=some z)(k:∀z,P z→P' z):optB (f' S) P':=by
 cases e:f w.S with
 | none=>rw[e] at h;exact h.elim
 | some z=>rw[e] at h;rw[up z e];exact k z h
theorem ZkD {P:Addr→Prop}{o:CmpOp}{ρ:PEnv}{ρ':DEnv}{w:W}{S:Za}(sm:Sim P ρ ρ' w S){x x' y y':D}(v:VR (YN o).1 ρ ρ' x x')(v':VR (YN o).2 ρ ρ' y y'){b:Bool}(h:cmpB o S x y=some b):cmpB o S x' y'=some b:=by
 cases o with
 | Eq=>exact ZhL (VR.ownP v sm) (VR.ownP v' sm) h
 | NotEq=>
   have h:(eqD S x y).map (!·)=some b:=h
   show(eqD S x' y').map (!·)=some b
   cases e:eqD S x y with
   | none=>rw[e] at h;cases h
   | some z=>rw[e] at h;rw[ZhL (VR.ownP v sm) (VR.ownP v' sm) e];exact h
 | In=>exact ZhM (VR.ownP v sm) (VR.own v' sm) h
 | NotIn=>
   have h:(inD S x y).map (!·)=some b:=h
   show(inD S x' y').map (!·)=some b
   cases e:inD S x y with
   | none=>rw[e] at h;cases h
   | some z=>rw[e] at h;rw[ZhM (VR.ownP v sm) (VR.own v' sm) e];exact h
 | _=>rw[VR.ex v,VR.ex v'];exact h
theorem Zmd {P:Addr→Prop}{f:Bi}{ρ:PEnv}{ρ':DEnv}{w:W}{S:Za}(sm:Sim P ρ ρ' w S){ds ds':List D}(v:VRs (biMd f) ρ ρ' ds ds'){z:D}(h:biD f S ds=some z):biD f S ds'=some z:=by
 cases f with
 | repr=>exact ZhK .repr (VRs.ownP sm v) (fun _=>rfl) (fun z=>nomatch z) h
 | suml=>rw[VRs.ex v];exact h
 | _=>exact ZhK _ (VRs.own sm v) (fun e=>by cases e) (fun z=>nomatch z) h
theorem Zbu {P:Addr→Prop}(s:Src){ρ:PEnv}{ρ':DEnv}{w:W}{S:Za}(sm:Sim P ρ ρ' w S){ds ds':List D}(v:VRs (Vg s) ρ ρ' ds ds'){its:List D}(h:srcD s S ds=some its):srcD s S ds'=some its:=by
 cases s with
 | keys=>rw[VRs.ex v];exact h
 | it=>exact VB .it (by simp) (VRs.own sm v) h
 | rng1=>exact VB .rng1 (by simp) (VRs.own sm v) h
 | rng2=>exact VB .rng2 (by simp) (VRs.own sm v) h
 | enum=>exact VB .enum (by simp) (VRs.own sm v) h
 | zip=>exact VB .zip (by simp) (VRs.own sm v) h
theorem UL {ρ:PEnv}{i:Nat}{b:Bool}{d:D}(h:(Qr ρ)[i]?=some (some (b,d))):b=false∧ρ[i]?=some (some (false,d)):=by
 unfold Qr at h
 rw[List.getElem?_map] at h
 cases e:ρ[i]? with
 | none=>rw[e] at h;cases h
 | some o=>
   rw[e] at h
   cases o with
   | none=>cases h
   | some x=>
     obtain⟨b',d'⟩:=x
     cases b' with
     | true=>cases h
     | false=>cases h;exact⟨rfl,rfl⟩
theorem Sim.lk {P:Addr→Prop}{ρ:PEnv}{ρ':DEnv}{w:W}{S:Za}(sm:Sim P ρ ρ' w S)(i:Nat)(d:D):Sim P ((Qr ρ).set i (some (false,d))) (ρ'.set i (some d)) w00k (fun _=>none):=by
 refine⟨by rw[List.length_set,List.length_set,sm.len];unfold Qr;rw[List.length_map],fun j e hj=>?_,fun j e hj=>?_,fun j k e f q hjk hj=>?_,⟨fun a u e=>(nomatch e),fun p e=>(nomatch e)⟩⟩
 · rw[List.getElem?_set] at hj ⊢
   split at hj
   · next hi=>
     subst hi
     split at hj
     · next hl=>
       cases hj
       rw[if_pos rfl,if_pos (by rw[sm.len];unfold Qr at hl;rw[List.length_map] at hl;exact hl)]
     · cases hj
   · next hi=>rw[if_neg hi];exact sm.pl j e (UL hj).2
 · rw[List.getElem?_set] at hj
   split at hj
   · split at hj <;> cases hj
   · exact absurd (UL hj).1 (by simp)
 · rw[List.getElem?_set] at hj
   split at hj
   · split at hj <;> cases hj
   · exact absurd (UL hj).1 (by simp)
theorem Zlj {ks:List L2.Key}{ds:List D}{mo:MO}(h:moV (.dic ks ds)=some mo):ks.length=ds.length∧mo=.dic (ks.zip ds):=by
 unfold moV at h
 dsimp only at h
 split at h
 · next hl=>cases h;exact⟨hl,rfl⟩
 · cases h
theorem Q4 {w0:W}{S0:Za}{step:D→W→(Option D→W→Prop)→Prop}{step':D→Za→List D→(Za→List D→Prop)→Prop}
  (hs:∀d w S K acc (K':Za→List D→Prop),Nx S0 w0 S w→step d w K→(∀o w1 S1,K o w1→Nx S w S1 w1→(match o with | none=>K' S1 acc | some y=>acc.length<sizeLine→K' S1 (acc++[y])))→(∀y w1,K (some y) w1→acc.length<sizeLine)→step' d S acc K')
  : ∀(items acc:List D)(w:W)(S:Za)(Q:List D→W→Prop)(Q':List D→Za→Prop),Nx S0 w0 S w→Y8 step items acc w Q→(∀acc w1 S1,Q acc w1→Nx S0 w0 S1 w1→Q' acc S1)→Ys step' items S acc Q'
 | [],acc,w,S,Q,Q',n,h,k=>k acc w S h n
 | d :: r,acc,w,S,Q,Q',n,h,k=>by
   unfold Y8 at h
   unfold Ys
   refine hs d w S _ acc _ n h (fun o w1 S1 ko n1=>?_) fun y w1 ko=>ko.1
   cases o with
   | none=>exact Q4 hs r acc w1 S1 Q Q' (n.trans n1) ko k
   | some y=>exact fun hl=>Q4 hs r (acc++[y]) w1 S1 Q Q' (n.trans n1) ko.2 k
theorem Zbg {w0:W}{S0:Za}{step:D→Nat→(Option D→Nat→Prop)→Prop}{step':D→Za→List D→(Za→List D→Prop)→Prop}
  (hs:∀d b S K acc (K':Za→List D→Prop),Nx S0 w0 S { w0 with b:=b }→step d b K→(∀o w1 S1,WA w0 w1→K o w1.b→Nx S { w0 with b:=b } S1 w1→(match o with | none=>K' S1 acc | some y=>acc.length<sizeLine→K' S1 (acc++[y])))→(∀y b1,K (some y) b1→acc.length<sizeLine)→step' d S acc K')
  : ∀(items acc:List D)(b:Nat)(S:Za)(Q:List D→Nat→Prop)(Q':List D→Za→Prop),Nx S0 w0 S { w0 with b:=b }→XA step items acc b Q→(∀acc b1 S1,Q acc b1→Nx S0 w0 S1 { w0 with b:=b1 }→Q' acc S1)→Ys step' items S acc Q'
 | [],acc,b,S,Q,Q',n,h,k=>k acc b S h n
 | d :: r,acc,b,S,Q,Q',n,h,k=>by
   unfold XA at h
   unfold Ys
   have st:∀w1:W,WA w0 w1→w1={ w0 with b:=w1.b }:=fun w1 ⟨e1,e2⟩=>by cases w1;cases e1;cases e2;rfl
   refine hs d b S _ acc _ n h (fun o w1 S1 sti ko n1=>?_) fun y b1 ko=>ko.1
   have n2:Nx S0 w0 S1 { w0 with b:=w1.b }:=by have:=n.trans n1;rw[st w1 sti] at this;exact this
   cases o with
   | none=>exact Zbg hs r acc w1.b S1 Q Q' n2 ko k
   | some y=>exact fun hl=>Zbg hs r (acc++[y]) w1.b S1 Q Q' n2 ko.2 k
mutual
theorem Zp (F:Fits G C kn Γ):∀(md:Md)(e:M),kE kn e=true→EOk G C Γ md e
 | md,.v i,_=>by
   intro P ρ ρ' w S Q Q' sm h k
   unfold xE atV at h
   unfold wE
   split at h
   · next d e=>rw[sm.pl i d e];exact k d d w S h .refl (.refl sm.sw)
   · next d e=>
     obtain⟨q,e1,o,n,p,_⟩:=sm.ow i d e
     rw[e1]
     cases md with
     | ex=>exact h.elim
     | op=>exact k d (.obj q) w S h (.inr ⟨trivial,i,q,e,e1,rfl,trivial⟩) (.refl sm.sw)
     | pu=>exact k d (.obj q) w S h.2 (.inr ⟨trivial,i,q,e,e1,rfl,h.1⟩) (.refl sm.sw)
   · exact h.elim
 | md,.k d,_=>by
   intro P ρ ρ' w S Q Q' sm h k
   unfold xE at h;unfold wE
   exact k d d w S h .refl (.refl sm.sw)
 | md,.g x,_=>by
   intro P ρ ρ' w S Q Q' sm h k
   unfold xE at h;unfold wE
   cases e:G.gl x with
   | none=>rw[e] at h;exact h.elim
   | some d=>rw[e] at h;exact⟨d,F.gl x d e,k d d w S h .refl (.refl sm.sw)⟩
 | md,.bin o a b,hk=>by
   intro P ρ ρ' w S Q Q' sm h k
   unfold xE at h;unfold wE
   unfold kE at hk;rw[Bool.and_eq_true] at hk
   refine Zm (e:=a) (Zp F .op a hk.1) (md:=.op) sm h fun x x' w1 S1 h v n sm1=>Zm (e:=b) (md:=.op) (Zp F .op b hk.2) sm1 h fun y y' w2 S2 h v' n' sm2=>?_
   exact Xw (f:=fun S=>binD o S x y) (f':=fun S=>binD o S x' y') h (fun z e=>Zlq (v.own sm2) (v'.own sm2) (Zn4 o x y _ _ sm2.sw.ext z e)) fun z q=>k z z w2 S2 q .refl (n.trans n')
 | md,.neg a,hk=>by
   intro P ρ ρ' w S Q Q' sm h k
   unfold xE at h;unfold wE
   unfold kE at hk
   refine Zm (e:=a) (md:=.op) (Zp F .ex a hk) sm h fun x x' w1 S1 h v n sm1=>?_
   rw[v.ex]
   cases x <;> first | exact h.elim | exact k _ _ _ _ h .refl n
 | md,.cmp o a b,hk=>by
   intro P ρ ρ' w S Q Q' sm h k
   unfold xE at h;unfold wE
   unfold kE at hk;rw[Bool.and_eq_true] at hk
   refine Zm (e:=a) (md:=.op) (Zp F _ a hk.1) sm h fun x x' w1 S1 h v n sm1=>Zm (e:=b) (md:=.op) (Zp F _ b hk.2) sm1 h fun y y' w2 S2 h v' n' sm2=>?_
   exact YE (f:=fun S=>cmpB o S x y) (f':=fun S=>cmpB o S x' y') h (fun z e=>ZkD sm2 v v' (Zd4 o x y _ _ sm2.sw.ext z e)) fun z q=>k _ _ w2 S2 q .refl (n.trans n')
 | md,.chain o o' a b c,hk=>by
   intro P ρ ρ' w S Q Q' sm h k
   unfold xE at h;unfold wE
   unfold kE at hk;simp only[Bool.and_eq_true] at hk
   refine Zm (e:=a) (md:=.op) (Zp F .ex a hk.1.1) sm h fun x x' w1 S1 h v n sm1=>Zm (e:=b) (md:=.op) (Zp F .ex b hk.1.2) sm1 h fun y y' w2 S2 h v' n' sm2=>?_
   rw[v.ex,v'.ex]
   refine YE (f:=fun S=>cmpB o S x y) (f':=fun S=>cmpB o S x y) h (fun z e=>Zd4 o x y _ _ sm2.sw.ext z e) fun z h=>?_
   cases z with
   | false=>exact k _ _ w2 S2 h .refl (n.trans n')
   | true=>
     refine Zm (e:=c) (md:=.op) (Zp F .ex c hk.2) sm2 h fun u u' w3 S3 h v3 n3 sm3=>?_
     rw[v3.ex]
     exact YE (f:=fun S=>cmpB o' S y u) (f':=fun S=>cmpB o' S y u) h (fun z e=>Zd4 o' y u _ _ sm3.sw.ext z e) fun z q=>k _ _ w3 S3 q .refl ((n.trans n').trans n3)
 | md,.isn no a,hk=>by
   intro P ρ ρ' w S Q Q' sm h k
   unfold xE at h;unfold wE
   unfold kE at hk
   refine Zm (e:=a) (md:=.op) (Zp F .op a hk) sm h fun x x' w1 S1 h v n sm1=>?_
   rw[Zlt (v.own sm1)]
   exact k _ _ w1 S1 h .refl n
 | md,.isb no b a,hk=>by
   intro P ρ ρ' w S Q Q' sm h k
   unfold xE at h;unfold wE
   unfold kE at hk
   refine Zm (e:=a) (md:=.op) (Zp F .ex a hk) sm h fun x x' w1 S1 h v n sm1=>?_
   rw[v.ex]
   cases x <;> first | exact h.elim | exact k _ _ _ _ h .refl n
 | md,.and a b,hk=>by
   intro P ρ ρ' w S Q Q' sm h k
   unfold xE at h;unfold wE
   unfold kE at hk;rw[Bool.and_eq_true] at hk
   refine Zm (e:=a) (md:=.op) (Zp F md a hk.1) sm h fun x x' w1 S1 h v n sm1=>?_
   refine YE (f:=fun S=>truD S x) (f':=fun S=>truD S x') h (fun z e=>Wr (v.own sm1) (W9 x _ _ sm1.sw.ext z e)) fun z h=>?_
   cases z with
   | false=>exact k x x' w1 S1 h v n
   | true=>exact Zm (e:=b) (md:=.op) (Zp F md b hk.2) sm1 h fun y y' w2 S2 h v' n' sm2=>k y y' w2 S2 h v' (n.trans n')
 | md,.or a b,hk=>by
   intro P ρ ρ' w S Q Q' sm h k
   unfold xE at h;unfold wE
   unfold kE at hk;rw[Bool.and_eq_true] at hk
   refine Zm (e:=a) (md:=.op) (Zp F md a hk.1) sm h fun x x' w1 S1 h v n sm1=>?_
   refine YE (f:=fun S=>truD S x) (f':=fun S=>truD S x') h (fun z e=>Wr (v.own sm1) (W9 x _ _ sm1.sw.ext z e)) fun z h=>?_
   cases z with
   | true=>exact k x x' w1 S1 h v n
   | false=>exact Zm (e:=b) (md:=.op) (Zp F md b hk.2) sm1 h fun y y' w2 S2 h v' n' sm2=>k y y' w2 S2 h v' (n.trans n')
 | md,.not a,hk=>by
   intro P ρ ρ' w S Q Q' sm h k
   unfold xE at h;unfold wE
   unfold kE at hk
   refine Zm (e:=a) (md:=.op) (Zp F .op a hk) sm h fun x x' w1 S1 h v n sm1=>?_
   exact YE (f:=fun S=>truD S x) (f':=fun S=>truD S x') h (fun z e=>Wr (v.own sm1) (W9 x _ _ sm1.sw.ext z e)) fun z h=>k _ _ w1 S1 h .refl n
 | md,.ite c a b,hk=>by
   intro P ρ ρ' w S Q Q' sm h k
   unfold xE at h;unfold wE
   unfold kE at hk;simp only[Bool.and_eq_true] at hk
   refine Zm (e:=c) (md:=.op) (Zp F .op c hk.1.1) sm h fun x x' w1 S1 h v n sm1=>?_
   refine YE (f:=fun S=>truD S x) (f':=fun S=>truD S x') h (fun z e=>Wr (v.own sm1) (W9 x _ _ sm1.sw.ext z e)) fun z h=>?_
   cases z with
   | true=>exact Zm (e:=a) (md:=.op) (Zp F md a hk.1.2) sm1 h fun y y' w2 S2 h v' n' sm2=>k y y' w2 S2 h v' (n.trans n')
   | false=>exact Zm (e:=b) (md:=.op) (Zp F md b hk.2) sm1 h fun y y' w2 S2 h v' n' sm2=>k y y' w2 S2 h v' (n.trans n')
 | md,.tup as,hk=>by
   intro P ρ ρ' w S Q Q' sm h k
   unfold xE at h;unfold wE
   unfold kE at hk
   refine YB F .ex as hk P ρ ρ' w S _ _ sm h fun ds ds' w1 S1 h v n=>?_
   rw[v.ex]
   exact⟨h.1,k _ _ w1 S1 h.2 .refl n⟩
 | md,.lst as,hk=>by
   intro P ρ ρ' w S Q Q' sm h k
   unfold xE at h;unfold wE
   unfold kE at hk
   refine YB F .ex as hk P ρ ρ' w S _ _ sm h fun ds ds' w1 S1 h v n=>?_
   rw[v.ex]
   exact⟨h.1,k _ _ w1 S1 h.2 .refl n⟩
 | md,.dct ks as,hk=>by
   intro P ρ ρ' w S Q Q' sm h k
   unfold xE at h;unfold wE
   unfold kE at hk
   refine YB F .ex as hk P ρ ρ' w S _ _ sm h fun ds ds' w1 S1 h v n=>?_
   rw[v.ex]
   exact k _ _ w1 S1 h .refl n
 | md,.isa t a,hk=>by
   intro P ρ ρ' w S Q Q' sm h k
   unfold xE at h;unfold wE
   unfold kE at hk
   refine Zm (e:=a) (md:=.op) (Zp F .op a hk) sm h fun x x' w1 S1 h v n sm1=>?_
   exact YE (f:=fun S=>isaD t S x) (f':=fun S=>isaD t S x') h (fun z e=>Zls (v.own sm1) (Zn7 t x _ _ sm1.sw.ext z e)) fun z h=>k _ _ w1 S1 h .refl n
 | md,.bi f as,hk=>by
   intro P ρ ρ' w S Q Q' sm h k
   unfold xE at h;unfold wE
   unfold kE at hk
   refine YB F _ as hk P ρ ρ' w S _ _ sm h fun ds ds' w1 S1 h v n=>?_
   exact Xw (f:=fun S=>biD f S ds) (f':=fun S=>biD f S ds') h (fun z e=>Zmd (sm.next n) v (ZpW f ds _ _ n.sim.ext z e)) fun z h=>k _ _ w1 S1 h .refl n
 | md,.ix a i,hk=>by
   intro P ρ ρ' w S Q Q' sm h k
   unfold xE at h;unfold wE
   unfold kE at hk;rw[Bool.and_eq_true] at hk
   refine Zm (e:=a) (md:=.op) (Zp F .op a hk.1) sm h fun x x' w1 S1 h v n sm1=>Zm (e:=i) (md:=.op) (Zp F .ex i hk.2) sm1 h fun y y' w2 S2 h v' n' sm2=>?_
   rw[v'.ex]
   exact Xw (f:=fun S=>ixOf S x y) (f':=fun S=>ixOf S x' y) h (fun z e=>ZnE (v.own sm2) (ZpY y x _ _ sm2.sw.ext z e)) fun z q=>k z z w2 S2 q .refl (n.trans n')
 | md,.sl lo hi a as,hk=>by
   intro P ρ ρ' w S Q Q' sm h k
   unfold xE at h;unfold wE
   unfold kE at hk;rw[Bool.and_eq_true] at hk
   refine Zm (e:=a) (md:=.op) (Zp F .op a hk.1) sm h fun x x' w1 S1 h v n sm1=>?_
   refine Zir F as hk.2 P ρ ρ' w1 S1 _ _ sm1 h fun is w2 S2 h n'=>?_
   have sm2:=sm1.next n'
   have go:∀l u,optD (slOf w2.S x l u) (fun z=>Q z w2)→optD (slOf S2 x' l u) fun z=>Q' z S2:=fun l u h=>
    Xw (f:=fun S=>slOf S x l u) (f':=fun S=>slOf S x' l u) h (fun z e=>ZnI (v.own sm2) (Zp1 l u x _ _ sm2.sw.ext z e)) fun z q=>k z z w2 S2 q .refl (n.trans n')
   match lo,hi,is,h with
   | false,false,[],h=>exact go _ _ h
   | true,false,[l],h=>exact go _ _ h
   | false,true,[u],h=>exact go _ _ h
   | true,true,[l,u],h=>exact go _ _ h
 | md,.call f as,hk=>by
   intro P ρ ρ' w S Q Q' sm h k
   unfold xE at h;unfold wE
   unfold kE at hk;rw[Bool.and_eq_true] at hk
   obtain⟨sp,hf,hsp⟩:=F.fn f hk.1
   refine⟨sp,hf,YB F .ex as hk.2 P ρ ρ' w S _ _ sm h fun ds ds' w1 S1 h v n=>?_⟩
   rw[v.ex]
   exact hsp ds w1 S1 _ _ n.sim h fun d w2 S2 q n2=>k d d w2 S2 q .refl (n.trans n2)
 | md,.comp s as own tg cs el,hk=>by
   intro P ρ ρ' w S Q Q' sm h k
   unfold xE at h;unfold wE
   unfold kE at hk;simp only[Bool.and_eq_true] at hk
   refine YB F (Vg s) as hk.1.1 P ρ ρ' w S _ _ sm h fun ds ds' w1 S1 h v n=>?_
   cases es:srcD s w1.S ds with
   | none=>rw[es] at h;exact h.elim
   | some items=>
     rw[es] at h
     have sm1:=sm.next n
     have src:∀ {w2:W} {S2:Za},Nx S1 w1 S2 w2→stab s ds items w2→srcD s S2 ds'=some items:=fun n2 hst=>
      Zbu s (sm1.next n2) v (Qi s ds _ _ n2.sim.ext _ (Zd0 hst es))
     refine⟨items,Zbu s sm1 v (Qi s ds _ _ n.sim.ext _ es),?_⟩
     have h:(if G.gc=true then _ else _):=h
     by_cases hg:G.gc=true
     · rw[if_pos hg] at h
       refine Q4 (w0:=w1) (S0:=S1) ?_ items [] w1 S1 _ _ (.refl n.sim) h fun acc w2 S2 q n2=>⟨src n2 q.1,k _ _ w2 S2 q.2 .refl (n.trans n2)⟩
       intro d w2 S2 K acc K' n2 hst hK hl
       obtain⟨st,h⟩:=hst
       refine⟨src n2 st,?_⟩
       cases et:setV tg d (Yt ρ own) with
       | none=>rw[et] at h;exact h.elim
       | some ρ2=>
         rw[et] at h
         have sm2:=(sm1.next n2).wipe own
         obtain⟨ρ2',e2,sm2⟩:=Sim.setV tg d _ ρ2 _ sm2 et
         refine⟨ρ2',e2,Zis F cs hk.1.2 P ρ2 ρ2' w2 S2 _ _ sm2 h fun t w3 S3 h n3=>?_⟩
         cases t with
         | false=>exact hK none w3 S3 h n3
         | true=>
           refine Zm (e:=el) (md:=.op) (Zp F .ex el hk.2) (sm2.next n3) h fun y y' w4 S4 h v4 n4 sm4=>?_
           rw[v4.ex]
           exact⟨hl y w4 h,hK (some y) w4 S4 h (n3.trans n4) (hl y w4 h)⟩
     · rw[if_neg hg] at h
       have src2:∀ {b:Nat} {S2:Za},Nx S1 w1 S2 { w1 with b:=b }→srcD s S2 ds'=some items:=fun n2=>
        Zbu s (sm1.next n2) v (Qi s ds _ _ n2.sim.ext _ es)
       refine Zbg (w0:=w1) (S0:=S1) ?_ items [] w1.b S1 _ _ (.refl n.sim) h fun acc b2 S2 q n2=>⟨src2 n2,k _ _ _ S2 q .refl (n.trans n2)⟩
       intro d b2 S2 K acc K' n2 h hK hl
       refine⟨src2 n2,?_⟩
       cases et:setV tg d (Yt ρ own) with
       | none=>rw[et] at h;exact h.elim
       | some ρ2=>
         rw[et] at h
         have sm2:=(sm1.next n2).wipe own
         obtain⟨ρ2',e2,sm2⟩:=Sim.setV tg d _ ρ2 _ sm2 et
         refine⟨ρ2',e2,Zis F cs hk.1.2 P ρ2 ρ2' _ S2 _ _ sm2 h fun t w3 S3 h n3=>?_⟩
         cases t with
         | false=>exact hK none w3 S3 h.1 h.2 n3
         | true=>
           refine Zm (e:=el) (md:=.op) (Zp F .ex el hk.2) (sm2.next n3) h fun y y' w4 S4 h v4 n4 sm4=>?_
           rw[v4.ex]
           exact⟨hl y _ h.2,hK (some y) w4 S4 h.1 h.2 (n3.trans n4) (hl y _ h.2)⟩
 | md,.meth m o as,hk=>by
   intro P ρ ρ' w S Q Q' sm h k
   unfold xE at h;unfold wE
   unfold kE at hk;rw[Bool.and_eq_true] at hk
   refine Zm (e:=o) (md:=.op) (Zp F .ex o hk.1) sm h fun x x' w1 S1 h v n sm1=>?_
   rw[v.ex]
   refine⟨h.1,YB F .op as hk.2 P ρ ρ' w1 S1 _ _ sm1 h.2 fun ds ds' w2 S2 h v2 n2=>?_⟩
   exact Xw (f:=fun S=>meD m S x ds) (f':=fun S=>meD m S x ds') h (fun z e=>ZnF m (v2.own (sm1.next n2)) (ZpZ m x ds _ _ n2.sim.ext z e)) fun z h=>k _ _ w2 S2 h .refl (n.trans n2)
 | md,.own a,hk=>by
   intro P ρ ρ' w S Q Q' sm h k
   unfold xE at h;unfold wE
   unfold kE at hk
   refine Zm (e:=a) (md:=.op) (Zp F .ex a hk) sm h fun x x' w1 S1 h v n sm1=>?_
   rw[v.ex]
   have key:∀mo p,(∀p,w1.S p=none→w1.pen≠some p→Q (.obj p) { w1 with S:=sput w1.S p mo })→S1 p=none→Q' (.obj p) (sput S1 p mo):=fun mo p h hp=>by
    have e1:w1.S p=none:=by
     cases e:w1.S p with
     | none=>rfl
     | some u=>rw[n.sim.ext p u e] at hp;cases hp
    have e2:w1.pen≠some p:=fun z=>by obtain⟨_,o,kk,e3,_⟩:=n.sim.pen p z;rw[hp] at e3;cases e3
    exact k _ _ _ _ (h p e1 e2) .refl (n.trans (n.sim.put hp))
   unfold moV at h
   cases x with
   | lst ds=>exact fun p hp=>key _ p h hp
   | dic ks ds=>
     dsimp only at h
     by_cases hz:ks.length=ds.length
     · rw[if_pos hz] at h;exact fun p hp=>key _ p h hp
     · rw[if_neg hz] at h;exact h.elim
   | _=>exact h.elim
 | md,.frz a,hk=>by
   intro P ρ ρ' w S Q Q' sm h k
   unfold xE at h;unfold wE
   unfold kE at hk
   refine Zm (e:=a) (md:=.op) (Zp F .ex a hk) sm h fun x x' w1 S1 h v n sm1=>?_
   rw[v.ex]
   cases x with
   | obj p=>
     dsimp only at h ⊢
     cases e:w1.S p with
     | none=>rw[e] at h;exact h.elim
     | some mo=>
       rw[e] at h
       rw[n.sim.ext p mo e]
       have nd:=n.trans (n.sim.del e)
       cases mo with
       | lst ds=>exact k _ _ _ _ h .refl nd
       | dic kvs=>exact k _ _ _ _ h .refl nd
       | ins c fs=>exact h.elim
   | _=>exact h.elim
 | md,.rev a,hk=>by
   intro P ρ ρ' w S Q Q' sm h k
   unfold xE at h;unfold wE
   unfold kE at hk
   refine Zm (e:=a) (md:=.op) (Zp F .op a hk) sm h fun x x' w1 S1 h v n sm1=>?_
   exact Xw (f:=fun S=>revD S x) (f':=fun S=>revD S x') h (fun z e=>Zlu (v.own sm1) (Zob x _ _ sm1.sw.ext z e)) fun z h=>k _ _ w1 S1 h .refl n
 | md,.isat ts a,hk=>by
   intro P ρ ρ' w S Q Q' sm h k
   unfold xE at h;unfold wE
   unfold kE at hk
   refine Zm (e:=a) (md:=.op) (Zp F .op a hk) sm h fun x x' w1 S1 h v n sm1=>?_
   exact YE (f:=fun S=>YW ts S x) (f':=fun S=>YW ts S x') h (fun z e=>Zjk (v.own sm1) (ZlO ts x _ _ sm1.sw.ext z e)) fun z h=>k _ _ w1 S1 h .refl n
 | md,.lset a,hk=>by
   intro P ρ ρ' w S Q Q' sm h k
   unfold xE at h;unfold wE
   unfold kE at hk
   refine Zm (e:=a) (md:=.op) (Zp F .op a hk) sm h fun x x' w1 S1 h v n sm1=>?_
   exact Xw (f:=fun S=>YO S x) (f':=fun S=>YO S x') h (fun z e=>Zjm (v.own sm1) (ZlP x _ _ sm1.sw.ext z e)) fun z h=>k _ _ w1 S1 h .refl n
 | md,.sset a,hk=>by
   intro P ρ ρ' w S Q Q' sm h k
   unfold xE at h;unfold wE
   unfold kE at hk
   refine Zm (e:=a) (md:=.op) (Zp F .op a hk) sm h fun x x' w1 S1 h v n sm1=>?_
   exact Xw (f:=fun S=>YQ S x) (f':=fun S=>YQ S x') h (fun z e=>Zjr (v.own sm1) (ZlT x _ _ sm1.sw.ext z e)) fun z h=>k _ _ w1 S1 h .refl n
 | md,.at a f,hk=>by
   intro P ρ ρ' w S Q Q' sm h k
   unfold xE at h;unfold wE
   unfold kE at hk
   refine Zm (e:=a) (md:=.op) (Zp F .ex a hk) sm h fun x x' w1 S1 h v n sm1=>?_
   rw[v.ex]
   cases e:insD w1.S x with
   | none=>rw[e] at h;exact h.elim
   | some cf=>
     rw[e] at h
     rw[Zhe n.sim.ext e]
     obtain⟨c,fs⟩:=cf
     refine⟨F.fl c f h.1,?_⟩
     cases el:fs.lookup f with
     | none=>have:=h.2;dsimp only at this;rw[el] at this;exact this.elim
     | some z=>have:=h.2;dsimp only at this;rw[el] at this;exact k z z w1 S1 this .refl n
 | md,.tel m o as,hk=>by
   intro P ρ ρ' w S Q Q' sm h k
   unfold xE at h;unfold wE
   unfold kE at hk;rw[Bool.and_eq_true] at hk
   refine Zm (e:=o) (md:=.op) (Zp F .op o hk.1) sm h fun x x' w1 S1 h v n sm1=>?_
   refine⟨Zjn (v.own sm1) (ZlQ m x sm1.sw.ext h.1),YB F .ex as hk.2 P ρ ρ' w1 S1 _ _ sm1 h.2 fun ds ds' w2 S2 h v2 n2=>?_⟩
   rw[v2.ex]
   exact Xw (f:=fun S=>mlD m S x ds) (f':=fun S=>mlD m S x' ds) h (fun z e=>ZnG (v.own (sm1.next n2)) (Zp0 m x ds _ _ n2.sim.ext z e)) fun z h=>k _ _ w2 S2 h .refl (n.trans n2)
 | md,.mutv m o as,hk=>by
   intro P ρ ρ' w S Q Q' sm h k
   unfold xE at h;unfold wE
   unfold kE at hk;rw[Bool.and_eq_true] at hk
   refine Zm (e:=o) (md:=.op) (Zp F .ex o hk.1) sm h fun x x' w1 S1 h v n sm1=>?_
   rw[v.ex]
   obtain⟨a,ds1,rfl,e1,h⟩:=h
   refine⟨a,ds1,rfl,n.sim.ext _ _ e1,YB F .ex as hk.2 P ρ ρ' w1 S1 _ _ sm1 h fun xs xs' w2 S2 h v2 n2=>?_⟩
   rw[v2.ex]
   obtain⟨ds,z,ds',e2,e3,q⟩:=h
   exact⟨ds,z,ds',n2.sim.ext _ _ e2,ZgC m ds xs _ _ n2.sim.ext _ e3,k _ _ _ _ q .refl ((n.trans n2).trans (n2.sim.wr e2))⟩
 | md,.mcall o m as,hk=>by
   intro P ρ ρ' w S Q Q' sm h k
   unfold xE at h;unfold wE
   unfold kE at hk;rw[Bool.and_eq_true] at hk
   refine Zm (e:=o) (md:=.op) (Zp F .ex o hk.1) sm h fun x x' w1 S1 h v n sm1=>?_
   rw[v.ex]
   cases e:insD w1.S x with
   | none=>rw[e] at h;exact h.elim
   | some cf=>
     rw[e] at h
     rw[Zhe n.sim.ext e]
     obtain⟨c,fs⟩:=cf
     obtain⟨h1,h2,h3⟩:=h
     obtain⟨sp,hf,hsp⟩:=F.me c m h2
     refine⟨h1,sp,hf,YB F .ex as hk.2 P ρ ρ' w1 S1 _ _ sm1 h3 fun ds ds' w2 S2 h v2 n2=>?_⟩
     rw[v2.ex]
     exact hsp _ w2 S2 _ _ n2.sim h fun d w3 S3 q n3=>k d d w3 S3 q .refl ((n.trans n2).trans n3)
 | md,.mk c as,hk=>by
   intro P ρ ρ' w S Q Q' sm h k
   unfold xE at h;unfold wE
   unfold kE at hk;rw[Bool.and_eq_true] at hk
   obtain⟨sp,hf,hsp⟩:=F.ini c hk.1
   refine⟨sp,hf,YB F .ex as hk.2 P ρ ρ' w S _ _ sm h fun ds ds' w1 S1 h v n=>?_⟩
   rw[v.ex]
   intro p hp
   have e1:w1.S p=none:=by
    cases e:w1.S p with
    | none=>rfl
    | some u=>rw[n.sim.ext p u e] at hp;cases hp
   have e2:w1.pen≠some p:=fun z=>by obtain⟨_,o,kk,e3,_⟩:=n.sim.pen p z;rw[hp] at e3;cases e3
   have np:=n.sim.put (mo:=.ins c []) hp
   exact hsp _ _ _ _ _ np.sim (h p e1 e2) fun d w2 S2 q n2=>⟨q.1,k _ _ w2 S2 q.2 .refl ((n.trans np).trans n2)⟩
 | md,.unr,hk=>by
   intro P ρ ρ' w S Q Q' sm h k
   unfold xE at h
   exact h.elim
 | md,.lk i a,hk=>by
   intro P ρ ρ' w S Q Q' sm h k
   unfold xE at h;unfold wE
   unfold kE at hk
   obtain⟨ks,ds,hi,h⟩:=h
   obtain⟨q,e1,⟨mo,m1,m2⟩,_⟩:=sm.ow i _ hi
   obtain⟨hl,rfl⟩:=Zlj m1
   refine⟨q,_,e1,m2,?_⟩
   rw[Xs _ _ hl,Va _ _ hl]
   exact Zp F .ex a hk P _ _ w00k _ _ _ (sm.lk i (.dic ks ds)) h fun d d' w1 S1 ⟨hp,q⟩ v n=>by rw[v.ex];exact⟨hp,k d d w S q .refl (.refl sm.sw)⟩
theorem YB (F:Fits G C kn Γ):∀(md:Md)(as:Ms),kEs kn as=true→EsOk G C Γ md as
 | md,.nil,_=>by
   intro P ρ ρ' w S Q Q' sm h k
   unfold xEs at h;unfold wEs
   exact k [] [] w S h trivial (.refl sm.sw)
 | md,.cons a r,hk=>by
   intro P ρ ρ' w S Q Q' sm h k
   unfold xEs at h;unfold wEs
   unfold kEs at hk;rw[Bool.and_eq_true] at hk
   refine Zm (e:=a) (md:=.op) (Zp F md a hk.1) sm h fun x x' w1 S1 h v n sm1=>?_
   exact YB F md r hk.2 P ρ ρ' w1 S1 _ _ sm1 h fun ds ds' w2 S2 h v2 n2=>k _ _ w2 S2 h ⟨v,v2⟩ (n.trans n2)
theorem Zir (F:Fits G C kn Γ):∀(as:Ms),kEs kn as=true→IsOk G C Γ as
 | .nil,_=>by
   intro P ρ ρ' w S Q Q' sm h k
   unfold xIs at h;unfold wIs
   exact k [] w S h (.refl sm.sw)
 | .cons a r,hk=>by
   intro P ρ ρ' w S Q Q' sm h k
   unfold xIs at h;unfold wIs
   unfold kEs at hk;rw[Bool.and_eq_true] at hk
   refine Zm (e:=a) (md:=.op) (Zp F .ex a hk.1) sm h fun x x' w1 S1 h v n sm1=>?_
   rw[v.ex]
   cases x <;> first | exact h.elim | exact Zir F r hk.2 P ρ ρ' w1 S1 _ _ sm1 h fun is w2 S2 h n2=>k _ w2 S2 h (n.trans n2)
theorem Zis (F:Fits G C kn Γ):∀(as:Ms),kEs kn as=true→TsOk G C Γ as
 | .nil,_=>by
   intro P ρ ρ' w S Q Q' sm h k
   unfold xTs at h;unfold wTs
   exact k _ w S h (.refl sm.sw)
 | .cons a .nil,hk=>by
   intro P ρ ρ' w S Q Q' sm h k
   unfold xTs at h;unfold wTs
   unfold kEs at hk;rw[Bool.and_eq_true] at hk
   refine Zm (e:=a) (md:=.op) (Zp F .op a hk.1) sm h fun x x' w1 S1 h v n sm1=>?_
   exact YE (f:=fun S=>truD S x) (f':=fun S=>truD S x') h (fun z e=>Wr (v.own sm1) (W9 x _ _ sm1.sw.ext z e)) fun z h=>k _ w1 S1 h n
 | .cons _ (.cons _ _),hk=>by
   intro P ρ ρ' w S Q Q' sm h k
   unfold xTs at h
   exact h.elim
end
end
end Vw
namespace Vw
open PySem Sw
mutual
def kC (kn:Str→Str→Bool):Sw.C→Bool
 | .asg _ e=>kE kn e
 | .par _ _ a b=>kE kn a && kE kn b
 | .aug _ _ e=>kE kn e
 | .sub o i e=>kE kn o && kE kn i && kE kn e
 | .sat o _ e=>kE kn o && kE kn e
 | .dpop o k d=>kE kn o && kE kn k && kE kn d
 | .exp e=>kE kn e
 | .mut _ o as=>kE kn o && kEs kn as
 | .ret e=>kE kn e
 | .ifs c a b=>kE kn c && kCs kn a && kCs kn b
 | .for _ as _ body=>kEs kn as && kCs kn body
 | .while c body=>kE kn c && kCs kn body
 | _=>true
def kCs (kn:Str→Str→Bool):Cs→Bool
 | .nil=>true
 | .cons a r=>kC kn a && kCs kn r
end
section
variable {G:Cfg}{C:CT}{kn:Str→Str→Bool}{Γ:Gam}{lin:List Nat}
def Fr (S0:Za)(w0:W)(q:Addr):Prop:=∀u,S0 q=some u→w0.S q≠none∨w0.pen=some q
structure Uw (S0:Za)(w0:W)(E:Xc)(E':YM):Prop where
 nx:∀ρ ρ' w S,Nx S0 w0 S w→Sim (Fr S0 w0) ρ ρ' w S→E.nx ρ w→E'.nx ρ' S
 rt:∀d w S,Nx S0 w0 S w→E.rt d w→E'.rt d S
def COk (G:Cfg)(C:CT)(Γ:Gam)(lin:List Nat)(c:Sw.C):Prop:=∀S0 w0 E E' ρ ρ' w S,Uw S0 w0 E E'→Nx S0 w0 S w→Sim (Fr S0 w0) ρ ρ' w S→xC G C lin c E ρ w→wC Γ c E' ρ' S
def CsOk (G:Cfg)(C:CT)(Γ:Gam)(lin:List Nat)(c:Cs):Prop:=∀S0 w0 E E' ρ ρ' w S,Uw S0 w0 E E'→Nx S0 w0 S w→Sim (Fr S0 w0) ρ ρ' w S→xCs G C lin c E ρ w→wCs Γ c E' ρ' S
theorem Znn {w0:W}{S0:Za}{w:W}{S:Za}{ρ:PEnv}{ρ':DEnv}{q:Addr}{d:D}{mo:MO}(n:Nx S0 w0 S w)(sm:Sim (Fr S0 w0) ρ ρ' w S)(i:Nat)(hq:S q=none)(hm:moV d=some mo) :
  Nx S0 w0 (sput S q mo) w∧Sim (Fr S0 w0) (ρ.set i (some (true,d))) (ρ'.set i (some (.obj q))) w (sput S q mo):=by
 have pq:w.pen≠some q:=fun e=>by obtain⟨_,o,k,e1,_⟩:=n.sim.pen q e;rw[hq] at e1;cases e1
 have wq:w.S q=none:=by
  cases e:w.S q with
  | none=>rfl
  | some u=>rw[n.sim.ext q u e] at hq;cases hq
 have fq:Fr S0 w0 q:=fun u e=>by
  by_cases h1:w0.S q=none
  · by_cases h2:w0.pen=some q
    · exact .inr h2
    · obtain⟨e1,_⟩:=n.fr q u e h1 h2;rw[hq] at e1;cases e1
  · exact .inl h1
 have ext:Ext S (sput S q mo):=fun a u e=>by rw[Zo (fun z=>by rw[z,hq] at e;cases e)];exact e
 have sw:SimW w (sput S q mo):=⟨fun a u e=>ext a u (n.sim.ext a u e),fun p hp=>by
  obtain⟨a,o,k,e1,e2⟩:=n.sim.pen p hp
  exact⟨a,o,k,ext _ _ e1,e2⟩⟩
 have nn:Nx S w (sput S q mo) w:=⟨sw,fun a u e n p=>⟨ext a u e,n,p⟩⟩
 have ow:∀(j:Nat)(e:D),ρ[j]?=some (some (true,e))→∃q',ρ'[j]?=some (some (.obj q'))∧OwnV S e q'∧w.S q'=none∧w.pen≠some q'∧Fr S0 w0 q'∧q'≠q:=by
  intro j e hj
  obtain⟨q',e1,⟨mo',m1,m2⟩,n1,p1,f1⟩:=sm.ow j e hj
  exact⟨q',e1,⟨mo',m1,m2⟩,n1,p1,f1,fun z=>by rw[z,hq] at m2;cases m2⟩
 refine⟨n.trans nn,by rw[List.length_set,List.length_set,sm.len],fun j e hj=>?_,fun j e hj=>?_,fun j k e f r hjk hj hk hr=>?_,sw⟩
 · rw[List.getElem?_set] at hj ⊢
   split at hj
   · next hi=>split at hj <;> cases hj
   · next hi=>rw[if_neg hi];exact sm.pl j e hj
 · rw[List.getElem?_set] at hj ⊢
   split at hj
   · next hi=>
     subst hi
     split at hj
     · next hl=>cases hj;exact⟨q,by rw[if_pos rfl,if_pos (by rw[sm.len];exact hl)],⟨mo,hm,Zq⟩,wq,pq,fq⟩
     · cases hj
   · next hi=>
     obtain⟨q',e1,⟨mo',m1,m2⟩,n1,p1,f1,ne⟩:=ow j e hj
     exact⟨q',by rw[if_neg hi];exact e1,⟨mo',m1,ext _ _ m2⟩,n1,p1,f1⟩
 · by_cases hij:i=j
   · subst hij
     have hk':ρ[k]?=some (some (true,f)):=by rw[List.getElem?_set_ne hjk] at hk;exact hk
     obtain⟨q',e1,_,_,_,_,ne⟩:=ow k f hk'
     rw[List.getElem?_set_ne hjk,e1]
     intro z
     have:r=q:=by
      rw[List.getElem?_set] at hr
      split at hr
      · split at hr
        · cases hr;rfl
        · cases hr
      · next z2=>exact absurd rfl z2
     cases z
     exact ne this
   · rw[List.getElem?_set_ne hij] at hj hr
     by_cases hik:i=k
     · subst hik
       obtain⟨q',e1,_,_,_,_,ne⟩:=ow j e hj
       rw[e1] at hr;cases hr
       rw[List.getElem?_set]
       split
       · split
         · intro z;cases z;exact ne rfl
         · intro z;cases z
       · next z2=>exact absurd rfl z2
     · rw[List.getElem?_set_ne hik] at hk ⊢
       exact sm.ds j k e f r hjk hj hk hr
theorem Zbm {w0:W}{S0:Za}{w:W}{S:Za}{ρ:PEnv}{ρ':DEnv}{q:Addr}{d d':D}{mo:MO}{i:Nat}(n:Nx S0 w0 S w)(sm:Sim (Fr S0 w0) ρ ρ' w S)(hi:ρ[i]?=some (some (true,d)))(hq:ρ'[i]?=some (some (.obj q)))(hm:moV d'=some mo) :
  Nx S0 w0 (sput S q mo) w∧Sim (Fr S0 w0) (ρ.set i (some (true,d'))) ρ' w (sput S q mo):=by
 obtain⟨q',e1,⟨mo0,m1,m2⟩,wq,pq,hn⟩:=sm.ow i d hi
 rw[hq] at e1;cases e1
 have sw:SimW w (sput S q mo):=⟨fun a u e=>by rw[Zo (fun z=>by rw[z,wq] at e;cases e)];exact n.sim.ext a u e,fun p hp=>by
  obtain⟨a,o,k,e1,e2⟩:=n.sim.pen p hp
  exact⟨a,o,k,by rw[Zo (fun z=>by rw[z] at hp;exact pq hp)];exact e1,e2⟩⟩
 refine⟨⟨sw,fun a u e n0 p0=>?_⟩,by rw[List.length_set,sm.len],fun j e hj=>?_,fun j e hj=>?_,fun j k e f r hjk hj hk hr=>?_,sw⟩
 · have:a≠q:=fun z=>by
    subst z
    rcases hn u e with h | h
    · exact h n0
    · exact p0 h
   obtain⟨a1,a2,a3⟩:=n.fr a u e n0 p0
   exact⟨by rw[Zo this];exact a1,a2,a3⟩
 · rw[List.getElem?_set] at hj
   split at hj
   · split at hj <;> cases hj
   · exact sm.pl j e hj
 · rw[List.getElem?_set] at hj
   split at hj
   · next hij=>
     subst hij
     split at hj
     · cases hj;exact⟨q,hq,⟨mo,hm,Zq⟩,wq,pq,hn⟩
     · cases hj
   · next hij=>
     obtain⟨q',e1,⟨mo',m1',m2'⟩,n1,p1,f1⟩:=sm.ow j e hj
     have:q'≠q:=fun z=>by subst z;exact sm.ds i j d e q' hij hi hj hq e1
     exact⟨q',e1,⟨mo',m1',by rw[Zo this];exact m2'⟩,n1,p1,f1⟩
 · have gt:∀ {j:Nat} {e:D},(ρ.set i (some (true,d')))[j]?=some (some (true,e))→∃e',ρ[j]?=some (some (true,e')):=by
    intro j e hj
    rw[List.getElem?_set] at hj
    split at hj
    · next hij=>subst hij;exact⟨d,hi⟩
    · exact⟨e,hj⟩
   obtain⟨e',hj'⟩:=gt hj
   obtain⟨f',hk'⟩:=gt hk
   exact sm.ds j k e' f' r hjk hj' hk' hr
theorem Zfi {w0:W}{S0:Za}{w:W}{S:Za}{q:Addr}(n:Nx S0 w0 S w)(fq:Fr S0 w0 q)(wq:w.S q=none)(pq:w.pen≠some q):Nx S0 w0 (sdel S q) w:=by
 have sw:SimW w (sdel S q):=⟨fun a u e=>by rw[Xz (fun z=>by rw[z,wq] at e;cases e)];exact n.sim.ext a u e,fun p hp=>by
  obtain⟨a,o,k,e1,e2⟩:=n.sim.pen p hp
  exact⟨a,o,k,by rw[Xz (fun z=>by rw[z] at hp;exact pq hp)];exact e1,e2⟩⟩
 refine⟨sw,fun a u e n0 p0=>?_⟩
 have:a≠q:=fun z=>by
  subst z
  rcases fq u e with h | h
  · exact h n0
  · exact p0 h
 obtain⟨a1,a2,a3⟩:=n.fr a u e n0 p0
 exact⟨by rw[Xz this];exact a1,a2,a3⟩
theorem Zci {ks:List L2.Key}{ds:List D}(h:ks.length=ds.length):((ks.zip ds).map (·.1))=ks∧((ks.zip ds).map (·.2))=ds:=
 ⟨by rw[List.map_fst_zip];omega,by rw[List.map_snd_zip];omega⟩
theorem Zcc:∀kvs:List (L2.Key×D),(kvs.map (·.1)).zip (kvs.map (·.2))=kvs
 | []=>rfl
 | p :: r=>by rw[List.map_cons,List.map_cons,List.zip_cons_cons,Zcc r]
theorem Zld {w0:W}{S0:Za}{w:W}{S:Za}{ρ:PEnv}{ρ':DEnv}{q:Addr}{d:D}{i:Nat}(n:Nx S0 w0 S w)(sm:Sim (Fr S0 w0) ρ ρ' w S)(hi:ρ[i]?=some (some (true,d)))(hq:ρ'[i]?=some (some (.obj q))) :
  Nx S0 w0 (sdel S q) w∧Sim (Fr S0 w0) (ρ.set i (some (false,d))) (ρ'.set i (some d)) w (sdel S q):=by
 obtain⟨q',e1,_,wq,pq,fq⟩:=sm.ow i d hi
 rw[hq] at e1;cases e1
 have nd:=Zfi n fq wq pq
 have s1:=sm.set i d
 refine⟨nd,s1.len,s1.pl,fun j e hj=>?_,s1.ds,nd.sim⟩
 obtain⟨q',e1,⟨mo',m1',m2'⟩,n1,p1,f1⟩:=s1.ow j e hj
 have hij:i≠j:=fun z=>by
  subst z
  rw[List.getElem?_set] at hj
  split at hj
  · split at hj <;> cases hj
  · next z=>exact z rfl
 have hj':ρ[j]?=some (some (true,e)):=by rw[List.getElem?_set_ne hij] at hj;exact hj
 have e1':ρ'[j]?=some (some (.obj q')):=by rw[List.getElem?_set_ne hij] at e1;exact e1
 have:q'≠q:=fun z=>by subst z;exact sm.ds i j d e q' hij hi hj' hq e1'
 exact⟨q',e1,⟨mo',m1',by rw[Xz this];exact m2'⟩,n1,p1,f1⟩
end
end Vw
namespace Vw
open PySem Sw
section
variable {G:Cfg}{C:CT}{kn:Str→Str→Bool}{Γ:Gam}{lin:List Nat}
theorem V9 {o:M}{ρ:PEnv}{i:Nat}{d:D}(h:ownAt o ρ=some (i,d)):o=.v i∧ρ[i]?=some (some (true,d)):=by
 unfold ownAt at h
 split at h
 · split at h
   · next e=>cases h;exact⟨rfl,e⟩
   · cases h
 · cases h
theorem ZfX {m:M}{ρ:PEnv}{d:D}(h:frzAt m ρ=some d):∃i,m=.frz (.v i)∧ρ[i]?=some (some (true,d)):=by
 unfold frzAt at h
 split at h
 · split at h
   · next e=>cases h;exact⟨_,rfl,e⟩
   · cases h
 · cases h
theorem Uw.with {S0:Za}{w0:W}{E:Xc}{E':YM}(h:Uw S0 w0 E E'){N:PEnv→W→Prop}{N':DEnv→Za→Prop}(k:∀ρ ρ' w S,Nx S0 w0 S w→Sim (Fr S0 w0) ρ ρ' w S→N ρ w→N' ρ' S):Uw S0 w0 { E with nx:=N } { E' with nx:=N' }:=⟨k,h.rt⟩
theorem Zg3 {S0:Za}{w0:W}{g:W→Prop}{g':Za→Prop}{turn:D→PEnv→W→(PEnv→W→Prop)→Prop}{turn':D→DEnv→Za→(DEnv→Za→Prop)→Prop}
  (hg:∀w S,Nx S0 w0 S w→g w→g' S)
  (ht:∀d ρ ρ' w S (N:PEnv→W→Prop) (N':DEnv→Za→Prop),Nx S0 w0 S w→Sim (Fr S0 w0) ρ ρ' w S→(∀ρ ρ' w S,Nx S0 w0 S w→Sim (Fr S0 w0) ρ ρ' w S→N ρ w→N' ρ' S)→turn d ρ w N→turn' d ρ' S N') :
  ∀(items:List D)(ρ:PEnv)(ρ':DEnv)(w:W)(S:Za)(Q:PEnv→W→Prop)(Q':DEnv→Za→Prop),Nx S0 w0 S w→Sim (Fr S0 w0) ρ ρ' w S→(∀ρ ρ' w S,Nx S0 w0 S w→Sim (Fr S0 w0) ρ ρ' w S→Q ρ w→Q' ρ' S)→xFor g turn items ρ w Q→wFor g' turn' items ρ' S Q'
 | [],ρ,ρ',w,S,Q,Q',n,sm,k,h=>⟨hg w S n h.1,k ρ ρ' w S n sm h.2⟩
 | d :: r,ρ,ρ',w,S,Q,Q',n,sm,k,h=>⟨hg w S n h.1,ht d ρ ρ' w S _ _ n sm (fun ρ1 ρ1' w1 S1 n1 sm1 h1=>Zg3 hg ht r ρ1 ρ1' w1 S1 Q Q' n1 sm1 k h1) h.2⟩
theorem Ze5 {S:Za}{d:D}{q:Addr}{Q:Qd}(o:OwnV S d q)(h:Q d (sdel S q)):(match S q with | some (.lst ds)=>Q (.lst ds) (sdel S q) | some (.dic kvs)=>Q (.dic (kvs.map (·.1)) (kvs.map (·.2))) (sdel S q) | _=>False):=by
 revert h
 refine Zn (P:=fun d=>Q d (sdel S q)→_) o (fun ds hq h=>?_) fun ks ds hz hq h=>?_
 · rw[hq];exact h
 · rw[hq];dsimp only;rw[(Zci hz).1,(Zci hz).2];exact h
theorem Zjb {d:D}(h:(moV d).isSome=true):∃mo,moV d=some mo:=Option.isSome_iff_exists.mp h
theorem ZbW (kvs:List (L2.Key×D)):moV (.dic (kvs.map (·.1)) (kvs.map (·.2)))=some (.dic kvs):=by
 unfold moV;dsimp only;rw[if_pos (by rw[List.length_map,List.length_map]),Zcc]
mutual
theorem Zp7 (F:Fits G C kn Γ):∀(c:Sw.C),kC kn c=true→COk G C Γ lin c
 | .asg tg e,hk=>by
   intro S0 w0 E E' ρ ρ' w S en n sm h
   unfold kC at hk
   have gen:xE G C .ex e ρ w (fun x w1=>optE (setV tg x ρ) fun ρ'=>E.nx ρ' w1)→wC Γ (.asg tg e) E' ρ' S:=by
    intro h
    unfold wC
    refine Zm (e:=e) (md:=.op) (Zp F .ex e hk) sm h fun x x' w1 S1 h v n1 sm1=>?_
    rw[v.ex]
    cases es:setV tg x ρ with
    | none=>rw[es] at h;exact h.elim
    | some ρ1=>
      rw[es] at h
      obtain⟨ρ1',e1,s1⟩:=Sim.setV tg x ρ ρ1 ρ' sm1 es
      rw[e1]
      exact en.nx ρ1 ρ1' w1 S1 (n.trans n1) s1 h
   unfold xC at h
   split at h
   · next i e'=>
     split at h
     · unfold wC
       unfold wE
       unfold kE at hk
       refine Zm (e:=e') (md:=.op) (Zp F .ex e' hk) sm h fun x x' w1 S1 h v n1 sm1=>?_
       rw[v.ex]
       obtain⟨mo,hm⟩:=Zjb h.1
       have key:∀p,S1 p=none→E'.nx (ρ'.set i (some (.obj p))) (sput S1 p mo):=fun p hp=>by
        obtain⟨a,b⟩:=Znn (n.trans n1) sm1 i hp hm
        exact en.nx _ _ _ _ a b h.2
       cases x with
       | lst ds=>cases hm;exact fun p hp=>by dsimp only;rw[Zfu];exact key p hp
       | dic ks ds=>
         unfold moV at hm
         dsimp only at hm
         split at hm
         · cases hm;exact fun p hp=>by dsimp only;rw[Zfu];exact key p hp
         · cases hm
       | _=>cases hm
     · refine gen ?_
       have:(fun(x:D)(w1:W)=>optE (setV (.nm i) x ρ) fun ρ'=>E.nx ρ' w1)=fun x w1=>E.nx (ρ.set i (some (false,x))) w1:=by
        funext x w1;rw[setV];rfl
       rw[this]
       exact h
   · exact gen h
 | .par i j a b,hk=>by
   intro S0 w0 E E' ρ ρ' w S en n sm h
   unfold kC at hk;rw[Bool.and_eq_true] at hk
   unfold xC at h;unfold wC
   refine Zm (e:=a) (md:=.op) (Zp F .ex a hk.1) sm h fun x x' w1 S1 h v n1 sm1=>Zm (e:=b) (md:=.op) (Zp F .ex b hk.2) sm1 h fun y y' w2 S2 h v2 n2 sm2=>?_
   rw[v.ex,v2.ex]
   exact en.nx _ _ _ _ ((n.trans n1).trans n2) ((sm2.set i x).set j y) h
 | .aug i o e,hk=>by
   intro S0 w0 E E' ρ ρ' w S en n sm h
   unfold kC at hk
   unfold xC atV at h
   split at h
   · next d ed=>
     cases d with
     | int x=>
       unfold wC
       rw[sm.pl i _ ed]
       refine Zm (e:=e) (md:=.op) (Zp F .ex e hk) sm h fun y y' w1 S1 h v n1 sm1=>?_
       rw[v.ex]
       cases y with
       | int y=>
         cases o <;> first | exact h.elim | exact en.nx _ _ _ _ (n.trans n1) (sm1.set i _) h
       | _=>exact h.elim
     | _=>exact h.elim
   · exact h.elim
   · exact h.elim
 | .sub o i e,hk=>by
   intro S0 w0 E E' ρ ρ' w S en n sm h
   unfold kC at hk;simp only[Bool.and_eq_true] at hk
   unfold xC at h;unfold wC
   refine Zm (e:=e) (md:=.op) (Zp F .ex e hk.2) sm h fun x x' w1 S1 h v n1 sm1=>?_
   rw[v.ex]
   cases eo:ownAt o ρ with
   | some kd=>
     obtain⟨k,d⟩:=kd
     rw[eo] at h
     obtain⟨rfl,ek⟩:=V9 eo
     obtain⟨q,eq,ow,wq,pq,fq⟩:=sm1.ow k d ek
     unfold wE
     rw[eq]
     refine Zm (e:=i) (md:=.op) (Zp F .ex i hk.1.2) sm1 h fun z z' w3 S3 h v3 n3 sm3=>?_
     rw[v3.ex]
     obtain⟨q',eq',ow',_⟩:=sm3.ow k d ek
     rw[eq] at eq';cases eq'
     have nn:=(n.trans n1).trans n3
     cases es:subL d z x with
     | none=>rw[es] at h;exact h.elim
     | some d'=>
       rw[es] at h
       have h:E.nx (ρ.set k (some (true,d'))) w3:=h
       have fin:∀mo,moV d'=some mo→E'.nx ρ' (sput S3 q mo):=fun mo hm=>by
        obtain⟨a,b⟩:=Zbm nn sm3 ek eq hm
        exact en.nx _ _ _ _ a b h
       revert es
       refine Zn (P:=fun d=>subL d z x=some d'→_) ow' (fun ds hq es=>?_) fun ks ds hz hq es=>?_
       · unfold subL at es
         cases z <;> try cases es
         next kk=>
         dsimp only at es
         split at es
         · next hc=>cases es;unfold subD;dsimp only;rw[hq];dsimp only;rw[if_pos hc];exact fin _ rfl
         · cases es
       · unfold subL at es
         dsimp only at es
         unfold subD;dsimp only;rw[hq];dsimp only
         cases ez:keyD z with
         | none=>rw[ez] at es;cases es
         | some kk=>
           rw[ez] at es
           dsimp only at es ⊢
           split at es
           · next hc=>cases es;rw[if_pos hc];exact fin _ (ZbW _)
           · cases es
   | none=>
     rw[eo] at h
     refine Zm (e:=o) (md:=.op) (Zp F .ex o hk.1.1) sm1 h fun y y' w2 S2 h v2 n2 sm2=>Zm (e:=i) (md:=.op) (Zp F .ex i hk.1.2) sm2 h fun z z' w3 S3 h v3 n3 sm3=>?_
     rw[v2.ex,v3.ex]
     have nn:=((n.trans n1).trans n2).trans n3
     have fin:∀a mo mo',w3.S a=some mo→E.nx ρ { w3 with S:=sput w3.S a mo' }→E'.nx ρ' (sput S3 a mo'):=fun a mo mo' e h=>
      en.nx _ _ _ _ (nn.trans (nn.sim.wr e)) (sm3.next (nn.sim.wr e)) h
     cases es:subD w3.S y z x with
     | none=>rw[es] at h;exact h.elim
     | some S4=>
       rw[es] at h
       have h:E.nx ρ { w3 with S:=S4 }:=h
       unfold subD at es ⊢
       cases y with
       | obj a=>
         dsimp only at es ⊢
         cases ea:w3.S a with
         | none=>rw[ea] at es;cases es
         | some mo=>
           rw[ea] at es
           rw[nn.sim.ext a mo ea]
           cases mo with
           | lst ds=>
             dsimp only at es ⊢
             cases z <;> try cases es
             next kk=>
             dsimp only at es ⊢
             split at es
             · next hc=>cases es;rw[if_pos hc];exact fin a _ _ ea h
             · cases es
           | dic kvs=>
             dsimp only at es ⊢
             cases ez:keyD z with
             | none=>rw[ez] at es;cases es
             | some kk=>
               rw[ez] at es
               dsimp only at es ⊢
               split at es
               · next hc=>cases es;rw[if_pos hc];exact fin a _ _ ea h
               · cases es
           | ins c fs=>cases es
       | _=>cases es
 | .sat o f e,hk=>by
   intro S0 w0 E E' ρ ρ' w S en n sm h
   unfold kC at hk;simp only[Bool.and_eq_true] at hk
   unfold xC at h;unfold wC
   refine Zm (e:=e) (md:=.op) (Zp F .ex e hk.2) sm h fun x x' w1 S1 h v n1 sm1=>Zm (e:=o) (md:=.op) (Zp F .ex o hk.1) sm1 h fun y y' w2 S2 h v2 n2 sm2=>?_
   rw[v.ex,v2.ex]
   have nn:=(n.trans n1).trans n2
   unfold satD at h ⊢
   cases y with
   | obj a=>
     dsimp only at h ⊢
     cases ea:w2.S a with
     | none=>rw[ea] at h;exact h.elim
     | some mo=>
       rw[ea] at h
       rw[nn.sim.ext a mo ea]
       cases mo with
       | ins c fs=>
         dsimp only at h ⊢
         split at h
         · next c' S3 e3=>
           split at e3
           · next hl=>
             cases e3
             rw[if_pos hl]
             exact⟨F.fl _ _ h.1,en.nx _ _ _ _ (nn.trans (nn.sim.wr ea)) (sm2.next (nn.sim.wr ea)) h.2⟩
           · cases e3
         · exact h.elim
       | _=>exact h.elim
   | _=>exact h.elim
 | .dpop o k d,hk=>by
   intro S0 w0 E E' ρ ρ' w S en n sm h
   unfold kC at hk;simp only[Bool.and_eq_true] at hk
   unfold xC at h;unfold wC
   cases eo:ownAt o ρ with
   | some kd=>
     obtain⟨i,x⟩:=kd
     rw[eo] at h
     obtain⟨rfl,ek⟩:=V9 eo
     obtain⟨q,eq,ow,wq,pq,fq⟩:=sm.ow i x ek
     unfold wE
     rw[eq]
     have hd:∀ {S:Za},OwnV S x q→(dicD S (.obj q)).isSome=true:=fun {S} ow=>by
      obtain⟨kvs,e⟩:=Option.isSome_iff_exists.mp h.1
      have e2:∀S',dicD S' x=some kvs:=by
       intro S'
       cases x with
       | dic ks ds=>exact e
       | lst ds=>cases e
       | obj a=>obtain⟨mo,m,_⟩:=ow;cases m
       | _=>cases e
      have:dicD S (.obj q)=some kvs:=Zlr (pu:=false) (.inr ⟨q,rfl,ow,fun z=>by cases z⟩) (e2 S)
      rw[this];rfl
     refine⟨hd ow,Zm (e:=k) (md:=.op) (Zp F .ex k hk.1.2) sm h.2 fun y y' w2 S2 h v2 n2 sm2=>Zm (e:=d) (md:=.op) (Zp F .ex d hk.2) sm2 h fun z z' w3 S3 h v3 n3 sm3=>?_⟩
     rw[v2.ex]
     obtain⟨q',eq',ow',_⟩:=sm3.ow i x ek
     rw[eq] at eq';cases eq'
     have nn:=(n.trans n2).trans n3
     cases es:ZaB x y with
     | none=>rw[es] at h;exact h.elim
     | some d'=>
       rw[es] at h
       have h:E.nx (ρ.set i (some (true,d'))) w3:=h
       have fin:∀mo,moV d'=some mo→E'.nx ρ' (sput S3 q mo):=fun mo hm=>by
        obtain⟨a,b⟩:=Zbm nn sm3 ek eq hm
        exact en.nx _ _ _ _ a b h
       revert es
       refine Zn (P:=fun x=>ZaB x y=some d'→_) ow' (fun ds hq es=>?_) fun ks ds hz hq es=>?_
       · cases es
       · unfold ZaB at es
         unfold WN;dsimp only at es ⊢;rw[hq];dsimp only
         cases ez:keyD y with
         | none=>rw[ez] at es;cases es
         | some kk=>rw[ez] at es;cases es;exact fin _ (ZbW _)
   | none=>
     rw[eo] at h
     refine Zm (e:=o) (md:=.op) (Zp F .ex o hk.1.1) sm h fun x x' w1 S1 h v n1 sm1=>?_
     rw[v.ex]
     have hd:(dicD S1 x).isSome=true:=by
      obtain⟨kvs,e⟩:=Option.isSome_iff_exists.mp h.1
      rw[ZaA n1.sim.ext e];rfl
     refine⟨hd,Zm (e:=k) (md:=.op) (Zp F .ex k hk.1.2) sm1 h.2 fun y y' w2 S2 h v2 n2 sm2=>Zm (e:=d) (md:=.op) (Zp F .ex d hk.2) sm2 h fun z z' w3 S3 h v3 n3 sm3=>?_⟩
     rw[v2.ex]
     have nn:=((n.trans n1).trans n2).trans n3
     cases es:WN w3.S x y with
     | none=>rw[es] at h;exact h.elim
     | some S4=>
       rw[es] at h
       have h:E.nx ρ { w3 with S:=S4 }:=h
       unfold WN at es ⊢
       cases x with
       | obj a=>
         dsimp only at es ⊢
         cases ea:w3.S a with
         | none=>rw[ea] at es;cases es
         | some mo=>
           rw[ea] at es
           rw[nn.sim.ext a mo ea]
           cases mo with
           | dic kvs=>
             dsimp only at es ⊢
             cases ez:keyD y with
             | none=>rw[ez] at es;cases es
             | some kk=>rw[ez] at es;cases es;exact en.nx _ _ _ _ (nn.trans (nn.sim.wr ea)) (sm3.next (nn.sim.wr ea)) h
           | _=>cases es
       | _=>cases es
 | .exp e,hk=>by
   intro S0 w0 E E' ρ ρ' w S en n sm h
   unfold kC at hk
   unfold xC at h;unfold wC
   exact Zm (e:=e) (md:=.op) (Zp F .ex e hk) sm h fun x x' w1 S1 h v n1 sm1=>en.nx _ _ _ _ (n.trans n1) sm1 h
 | .mut m o as,hk=>by
   intro S0 w0 E E' ρ ρ' w S en n sm h
   unfold kC at hk;rw[Bool.and_eq_true] at hk
   unfold xC at h;unfold wC
   cases eo:ownAt o ρ with
   | some kd=>
     obtain⟨i,d⟩:=kd
     rw[eo] at h
     obtain⟨rfl,ek⟩:=V9 eo
     obtain⟨q,eq,ow,wq,pq,fq⟩:=sm.ow i d ek
     unfold wE
     rw[eq]
     cases d with
     | lst ds=>
       have hq:∀ {S:Za},OwnV S (.lst ds) q→S q=some (.lst ds):=fun⟨mo,m,e⟩=>by cases m;exact e
       refine⟨q,ds,rfl,hq ow,YB F _ as hk.2 _ ρ ρ' w S _ _ sm h fun xs xs' w1 S1 h v n1=>?_⟩
       have sm1:=sm.next n1
       obtain⟨q',eq',ow',_⟩:=sm1.ow i _ ek
       rw[eq] at eq';cases eq'
       cases es:muD m w1.S ds xs with
       | none=>rw[es] at h;exact h.elim
       | some zd=>
         obtain⟨z,ds'⟩:=zd
         rw[es] at h
         have h:E.nx (ρ.set i (some (true,.lst ds'))) w1:=h
         have em:=ZgC m ds xs _ _ n1.sim.ext _ es
         have em':muD m S1 ds xs'=some (z,ds'):=by
          cases m with
          | extend=>exact ZnH .extend (VRs.own (md:=.op) sm1 v) rfl em
          | _=>rw[VRs.ex v];exact em
         obtain⟨a,b⟩:=Zbm (n.trans n1) sm1 ek eq (d':=.lst ds') rfl
         exact⟨ds,z,ds',hq ow',em',en.nx _ _ _ _ a b h⟩
     | _=>exact h.elim
   | none=>
     rw[eo] at h
     refine Zm (e:=o) (md:=.op) (Zp F .ex o hk.1) sm h fun x x' w1 S1 h v n1 sm1=>?_
     rw[v.ex]
     obtain⟨a,ds1,rfl,e1,h⟩:=h
     refine⟨a,ds1,rfl,n1.sim.ext _ _ e1,YB F .ex as hk.2 _ ρ ρ' w1 S1 _ _ sm1 h fun xs xs' w2 S2 h v2 n2=>?_⟩
     rw[v2.ex]
     obtain⟨ds,z,ds',e2,e3,q⟩:=h
     have nn:=(n.trans n1).trans n2
     exact⟨ds,z,ds',n2.sim.ext _ _ e2,ZgC m ds xs _ _ n2.sim.ext _ e3,en.nx _ _ _ _ (nn.trans (nn.sim.wr e2)) ((sm1.next n2).next (nn.sim.wr e2)) q⟩
 | .ret e,hk=>by
   intro S0 w0 E E' ρ ρ' w S en n sm h
   unfold kC at hk
   unfold xC at h;unfold wC
   cases ef:frzAt e ρ with
   | some d=>
     rw[ef] at h
     obtain⟨i,rfl,ei⟩:=ZfX ef
     obtain⟨q,eq,ow,wq,pq,fq⟩:=sm.ow i d ei
     unfold wE
     unfold wE
     rw[eq]
     exact Ze5 ow (en.rt d w _ (Zfi n fq wq pq) h)
   | none=>
     rw[ef] at h
     exact Zm (e:=e) (md:=.op) (Zp F .ex e hk) sm h fun x x' w1 S1 h v n1 sm1=>by rw[v.ex];exact en.rt _ _ _ (n.trans n1) h
 | .retN,hk=>by
   intro S0 w0 E E' ρ ρ' w S en n sm h
   unfold xC at h;unfold wC
   exact en.rt _ _ _ n h
 | .pass,hk=>by
   intro S0 w0 E E' ρ ρ' w S en n sm h
   unfold xC at h;unfold wC
   exact en.nx _ _ _ _ n sm h
 | .ifs c a b,hk=>by
   intro S0 w0 E E' ρ ρ' w S en n sm h
   unfold kC at hk;simp only[Bool.and_eq_true] at hk
   unfold xC at h;unfold wC wT
   refine Zm (e:=c) (md:=.op) (Zp F .op c hk.1.1) sm h fun x x' w1 S1 h v n1 sm1=>?_
   refine YE (f:=fun S=>truD S x) (f':=fun S=>truD S x') h (fun z e=>Wr (v.own sm1) (W9 x _ _ sm1.sw.ext z e)) fun z h=>?_
   cases z with
   | true=>exact VE F a hk.1.2 S0 w0 E E' ρ ρ' w1 S1 en (n.trans n1) sm1 h
   | false=>exact VE F b hk.2 S0 w0 E E' ρ ρ' w1 S1 en (n.trans n1) sm1 h
 | .for s as tg body,hk=>by
   intro S0 w0 E E' ρ ρ' w S en n sm h
   unfold kC at hk;rw[Bool.and_eq_true] at hk
   unfold xC at h;unfold wC
   refine YB F .ex as hk.1 _ ρ ρ' w S _ _ sm h fun ds ds' w1 S1 h v n1=>?_
   rw[v.ex]
   cases es:srcD s w1.S ds with
   | none=>rw[es] at h;exact h.elim
   | some items=>
     rw[es] at h
     refine⟨items,Qi s ds _ _ n1.sim.ext _ es,?_⟩
     refine Zg3 (S0:=S0) (w0:=w0) (fun w2 S2 n2 st=>Qi s ds _ _ n2.sim.ext _ (Zd0 st es)) ?_ items ρ ρ' w1 S1 _ _ (n.trans n1) (sm.next n1) (fun ρ ρ' w S n sm h=>en.nx ρ ρ' w S n sm h) h
     intro d ρ2 ρ2' w2 S2 N N' n2 sm2 hN h
     cases et:setV tg d ρ2 with
     | none=>rw[et] at h;exact h.elim
     | some ρ3=>
       rw[et] at h
       obtain⟨ρ3',e3,sm3⟩:=Sim.setV tg d _ ρ3 _ sm2 et
       exact⟨ρ3',e3,VE F body hk.2 S0 w0 _ _ ρ3 ρ3' w2 S2 (en.with hN) n2 sm3 h⟩
 | .while c body,hk=>by
   intro S0 w0 E E' ρ ρ' w S en n sm h
   unfold kC at hk;rw[Bool.and_eq_true] at hk
   unfold xC at h;unfold wC
   obtain⟨I,⟨m,h0⟩,hI⟩:=h
   refine⟨fun m ρ' S=>∃ρ w,Nx S0 w0 S w∧Sim (Fr S0 w0) ρ ρ' w S∧I m ρ w,⟨m,ρ,w,n,sm,h0⟩,?_⟩
   rintro m ρ1' S1 ⟨ρ1,w1,n1,sm1,i1⟩
   unfold wT
   refine Zm (e:=c) (md:=.op) (Zp F .op c hk.1) sm1 (hI m ρ1 w1 i1) fun x x' w2 S2 h v n2 sm2=>?_
   refine YE (f:=fun S=>truD S x) (f':=fun S=>truD S x') h (fun z e=>Wr (v.own sm2) (W9 x _ _ sm2.sw.ext z e)) fun z h=>?_
   cases z with
   | true=>exact VE F body hk.2 S0 w0 _ _ ρ1 ρ1' w2 S2 (en.with fun ρ3 ρ3' w3 S3 n3 sm3 ⟨m',hm,i3⟩=>⟨m',hm,ρ3,w3,n3,sm3,i3⟩) (n1.trans n2) sm2 h
   | false=>exact en.nx _ _ _ _ (n1.trans n2) sm2 h
 | .wipe is,hk=>by
   intro S0 w0 E E' ρ ρ' w S en n sm h
   unfold xC at h;unfold wC
   exact en.nx _ _ _ _ n (sm.wipe is) h
 | .fre i,hk=>by
   intro S0 w0 E E' ρ ρ' w S en n sm h
   unfold xC at h;unfold wC
   split at h
   · next d ei=>
     obtain⟨q,eq,ow,wq,pq,fq⟩:=sm.ow i d ei
     rw[eq]
     obtain⟨a,b⟩:=Zld n sm ei eq
     have:=en.nx _ _ _ _ a b h
     exact Ze5 (Q:=fun d S=>E'.nx (ρ'.set i (some d)) S) ow this
   · exact h.elim
 | .unr,hk=>by
   intro S0 w0 E E' ρ ρ' w S en n sm h
   unfold xC at h
   exact h.elim
theorem VE (F:Fits G C kn Γ):∀(c:Cs),kCs kn c=true→CsOk G C Γ lin c
 | .nil,hk=>by
   intro S0 w0 E E' ρ ρ' w S en n sm h
   unfold xCs at h;unfold wCs
   exact en.nx _ _ _ _ n sm h
 | .cons a r,hk=>by
   intro S0 w0 E E' ρ ρ' w S en n sm h
   unfold kCs at hk;rw[Bool.and_eq_true] at hk
   unfold xCs at h;unfold wCs
   exact Zp7 F a hk.1 S0 w0 _ _ ρ ρ' w S (en.with fun ρ ρ' w S n sm h=>VE F r hk.2 S0 w0 E E' ρ ρ' w S en n sm h) n sm h
end
end
end Vw
namespace Vw
open PySem PySem.Spec PyProof.Rows L2 Sw
def spN (R:List D→List D→Prop):ZA:=fun ds S Q=>∃xs,R ds xs∧∀p,S p=none→Q (.obj p) (sput S p (.lst xs))
def spOf:Bs→ZA
 | .dr=>Xn
 | .pn=>Za1
 | .R R=>spR R
 | .P c pre R=>spP c pre R
 | .N R=>spN R
theorem VY {S S':Za}{p:Addr}(h:Ext S S')(e:S' p=none):S p=none:=by
 cases q:S p with
 | none=>rfl
 | some u=>rw[h p u q] at e;cases e
theorem ZhR {w:W}{S:Za}{p:Addr}{o':MO}{k:Nat}(h:SimW w S)(hp:w.pen=some p)(ho:PenO o' k)(hk:k+b≤2 ^ 40):Nx S w (sput S p o') { w with b:=b }:=by
 obtain⟨n,_⟩:=h.pen p hp
 refine⟨⟨fun a u e=>?_,fun p' hp'=>?_⟩,fun a u e n' p'=>?_⟩
 · have:a≠p:=fun z=>by have e:w.S a=some u:=e;rw[z,n] at e;cases e
   rw[Zo this];exact h.ext a u e
 · have e:p'=p:=by have z:w.pen=some p':=hp';rw[hp] at z;cases z;rfl
   subst e
   exact⟨n,o',k,Zq,ho,hk⟩
 · have:a≠p:=fun z=>by rw[z] at p';exact p' hp
   exact⟨by rw[Zo this];exact e,n',p'⟩
theorem ZoI (b:Bs){ds:List D}{w:W}{S:Za}{Q:QW}{Q':Qd}(h:SimW w S)(hb:bsV b ds w Q)(k:∀d w1 S1,Q d w1→Nx S w S1 w1→Q' d S1):spOf b ds S Q':=by
 cases b with
 | dr=>
   obtain⟨p,m,rfl,hp,m1,m2,hb,q⟩:=hb
   obtain⟨n,o,kk,e1,⟨cs,n0,l0,rfl,a1,a2,a3⟩,e3⟩:=h.pen p hp
   refine⟨p,m,cs,n0,l0,rfl,e1,m1,m2,a1,by omega,a3,fun r n' l' r1 r2 b1 b2 b3=>?_⟩
   refine k _ _ _ (q r r1 r2) (ZhR h hp (k:=kk+1) ⟨cs,n',l',rfl,by omega,by omega,b3⟩ (by omega))
 | pn=>
   obtain⟨ns,rfl,hl,hp,q⟩:=hb
   refine⟨ns,rfl,hl,fun p cs hn=>k _ _ _ (q p (VY h.ext hn)) ⟨⟨fun a u e=>?_,fun p' hp'=>?_⟩,fun a u e n' p'=>?_⟩⟩
   · have:a≠p:=fun z=>by have e:w.S a=some u:=e;rw[z,VY h.ext hn] at e;cases e
     rw[Zo this];exact h.ext a u e
   · have e:p'=p:=by have z:some p=some p':=hp';cases z;rfl
     subst e
     exact⟨VY h.ext hn,_,0,Zq,⟨cs,0,0,rfl,by omega,by omega,by omega⟩,by show 0+2 ^ 40≤2 ^ 40;omega⟩
   · have:a≠p:=fun z=>by rw[z,hn] at e;cases e
     exact⟨by rw[Zo this];exact e,n',fun z=>by cases z;exact this rfl⟩
 | R R=>
   obtain⟨d,r,q⟩:=hb
   exact⟨d,r,k _ _ _ q (.refl h)⟩
 | P c pre R=>
   obtain⟨p,as,rfl,hp,hc,pr,q⟩:=hb
   obtain⟨n,o,kk,e1,e2,e3⟩:=h.pen p hp
   refine⟨p,as,o,kk,rfl,e1,e2,by omega,pr,fun d o' r ho'=>?_⟩
   exact k _ _ _ (q d r) (ZhR h hp (k:=kk+c) ho' (by omega))
 | N R=>
   obtain⟨xs,r,q⟩:=hb
   refine⟨xs,r,fun p hp=>?_⟩
   have pq:w.pen≠some p:=fun e=>by obtain⟨_,o,k,e1,_⟩:=h.pen p e;rw[hp] at e1;cases e1
   exact k _ _ _ (q p (VY h.ext hp) pq) (h.put hp)
def spC (C:CT)(c f:Str):ZA:=fun ds S Q=>∃w Q0,SimW w S∧C c f ds w Q0∧∀d w1 S1,Q0 d w1→Nx S w S1 w1→Q d S1
theorem Zaj {C:CT}{c f:Str}:∀ds S Q Q',(∀d S',Q d S'→Q' d S')→spC C c f ds S Q→spC C c f ds S Q':=fun _ _ _ _ m ⟨w,Q0,a,b,k⟩=>⟨w,Q0,a,b,fun d w1 S1 q n=>m _ _ (k d w1 S1 q n)⟩
theorem Zif {P:Addr→Prop}{n:Nat}{ds:List D}{w:W}{S:Za}(h:SimW w S):Sim P (Y7 n ds) (XS n ds) w S:=by
 have no:∀(i:Nat)(d:D),(Y7 n ds)[i]?≠some (some (true,d)):=by
  intro i d e
  unfold Y7 at e
  by_cases hi:i<ds.length
  · rw[List.getElem?_append_left (by simpa using hi),List.getElem?_map] at e
    cases q:ds[i]? with
    | none=>rw[q] at e;cases e
    | some x=>rw[q] at e;cases e
  · rw[List.getElem?_append_right (by simpa using hi),List.getElem?_replicate] at e
    split at e <;> cases e
 refine⟨by unfold Y7 XS;simp,fun i d e=>?_,fun i d e=>absurd e (no i d),fun i j d e q _ h=>absurd h (no i d),h⟩
 unfold Y7 at e
 unfold XS
 by_cases hi:i<ds.length
 · rw[List.getElem?_append_left (by simpa using hi),List.getElem?_map] at e ⊢
   cases q:ds[i]? with
   | none=>rw[q] at e;cases e
   | some x=>rw[q] at e;cases e;rfl
 · rw[List.getElem?_append_right (by simpa using hi),List.getElem?_replicate] at e
   split at e <;> cases e
theorem Zg1 {fg:Bool}{w w1:W}{S S1:Za}{Q0:QW}{Q:Qd}{d:D}(k:∀d w1 S1,Q0 d w1→Nx S w S1 w1→Q d S1)(n:Nx S w S1 w1)(h:fgQ fg w Q0 d w1):Q d S1:=by
 unfold fgQ at h
 split at h
 · obtain⟨e,q⟩:=h
   refine k _ _ _ q ⟨⟨fun a u h=>n.sim.ext a u (e a u h),fun p hp=>?_⟩,fun a u h1 h2 h3=>?_⟩
   · obtain⟨n1,r⟩:=n.sim.pen p hp
     refine⟨?_,r⟩
     cases q:w.S p with
     | none=>rfl
     | some u=>rw[e p u q] at n1;cases n1
   · obtain⟨a1,a2,a3⟩:=n.fr a u h1 h2 h3
     exact⟨a1,h2,a3⟩
 · exact k _ _ _ h n
theorem ZmS {T:Tab}{n:Nat}{kn:Str→Str→Bool}{Γ:Gam}{c f:Str}{d:PDef}(F:Fits T.cfg (cT T n) kn Γ)(hd:T.df c f=some d)(hk:kCs kn d.body=true):FOk Γ d.n d.ps d.body (spC (cT T (n+1)) c f):=by
 rintro ds S Q ⟨w,Q0,sim,h,k⟩
 have h:ds.length=d.ps∧xCs { T.cfg with gc:=d.gc } (cT T n) d.lin d.body { nx:=fun _ w'=>fgQ d.fg w Q0 .non w',rt:=fgQ d.fg w Q0 } (Y7 d.n ds) w:=by
  have e:cT T (n+1) c f ds w Q0=(match T.df c f with
   | some d=>ds.length=d.ps∧xCs { T.cfg with gc:=d.gc } (cT T n) d.lin d.body { nx:=fun _ w'=>fgQ d.fg w Q0 .non w',rt:=fgQ d.fg w Q0 } (Y7 d.n ds) w
   | none=>match T.bs f with
     | some b=>c = "" ∧bsV b ds w Q0
     | none=>False):=rfl
  rw[e,hd] at h
  exact h
 have F:Fits { T.cfg with gc:=d.gc } (cT T n) kn Γ:=⟨F.gl,F.fl,F.fn,F.me,F.ini⟩
 refine⟨h.1,VE F d.body hk S w _ _ _ _ w S ⟨fun ρ ρ' w1 S1 n _ q=>Yr (Zg1 k n q),fun d w1 S1 n q=>Yr (Zg1 k n q)⟩ (.refl sim) (Zif sim) h.2⟩
theorem ZiX {Γ:Gam}{n ps:Nat}{body:Cs}{sp:ZA}(h:∀ds S Q,¬sp ds S Q):FOk Γ n ps body sp:=fun ds S Q z=>(h ds S Q z).elim
structure ZfF (K:PySem.W.Frag)(mg:Str→Option Value)(kn:Str→Str→Bool)(c f:Str)(d:PDef):Prop where
 kn:kCs kn d.body=true
 ex:∃(st:Stmt) (N ps:List Str),N.length=d.n∧ps.length=d.ps∧scOk N ps (defScope st)=true∧Z5 ⟨N,defScope st,fun _=>true⟩ d.body (defBody st)=true∧
  ((c = "" ∧Lnk K mg f st∧YF f st ps)∨(c ≠ "" ∧f ≠ "__init__" ∧∃qn,LnkM K mg c f qn st∧Zcu f qn st ps)∨(c ≠ "" ∧f = "__init__" ∧∃qn,LnkI K mg c qn st∧Zcu "__init__" qn st ps))
section
variable {P:Program}{w:World}{K:PySem.W.Frag}{mg:Str→Option Value}{base:Heap}
structure ZfK (P:Program)(w:World)(K:PySem.W.Frag)(mg:Str→Option Value)(base:Heap)(T:Tab)(kn:Str→Str→Bool)(k0:Nat):Prop where
 blt:∀x∈Z6,mg x=none
 df:∀c f d,T.df c f=some d→ZfF K mg kn c f d
 bs:∀f b,T.bs f=some b→LkD P w K mg base (clOf mg) k0 f (spOf b)
 dj:∀f b,T.bs f=some b→T.df "" f=none
 gl:∀x d,T.cfg.gl x=some d→∃v u,Vf d=some v∧mg x=some u∧RelV v u
 fl:∀c f,T.cfg.fl c f=true→LkF K (clOf mg) c f
 me:∀c m,T.cfg.me c m=true→c ≠ "" ∧m ≠ "__init__" ∧∃d,T.df c m=some d
 kf:∀f,kn "" f=true→(∃d,T.df "" f=some d)∨∃b,T.bs f=some b
 ki:∀c,kn c "__init__" = true→c ≠ "" ∧∃d,T.df c "__init__" = some d
def lev (k0 n:Nat):Nat:=k0+2 * n+2
theorem ZnW {T:Tab}{n:Nat}{f:Str}{b:Bs}(hb:T.bs f=some b)(hn:T.df "" f=none) {ds:List D} {S:Za} {Q:Qd} (h:spC (cT T n) "" f ds S Q):spOf b ds S Q:=by
 obtain⟨w,Q0,sim,h,k⟩:=h
 have h:bsV b ds w Q0:=by
  cases n with
  | zero=>
    have e:cT T 0 "" f ds w Q0=(match T.bs f with
     | some b=>("" : Str) = "" ∧bsV b ds w Q0
     | none=>False):=rfl
    rw[e,hb] at h;exact h.2
  | succ n=>
    have e:cT T (n+1) "" f ds w Q0=(match T.df "" f with
     | some d=>ds.length=d.ps∧xCs { T.cfg with gc:=d.gc } (cT T n) d.lin d.body { nx:=fun _ w'=>fgQ d.fg w Q0 .non w',rt:=fgQ d.fg w Q0 } (Y7 d.n ds) w
     | none=>match T.bs f with
       | some b=>("" : Str) = "" ∧bsV b ds w Q0
       | none=>False):=rfl
    rw[e,hn] at h
    dsimp only at h
    rw[hb] at h;exact h.2
 exact ZoI b sim h k
theorem LkD.imp {k:Nat}{x:Str}{sp sp':ZA}(h:LkD P w K mg base (clOf mg) k x sp)(mono:∀ds S Q Q',(∀d S',Q d S'→Q' d S')→sp' ds S Q→sp' ds S Q')(i:∀ds S Q,sp' ds S Q→sp ds S Q):LkD P w K mg base (clOf mg) k x sp':=by
 obtain⟨_,f,fd,ps,h1,h2,h3,h4⟩:=h
 have go:∀vs H Q E,YI K (clOf mg) sp' vs H Q E→YI K (clOf mg) sp vs H Q E:=fun vs H Q E ⟨ds,S,P0,a,b,c⟩=>⟨ds,S,P0,a,b,i _ _ _ c⟩
 exact⟨mono,f,fd,ps,h1,h2,h3,fun vs H Q E z=>h4.len vs H Q E (go _ _ _ _ z),fun A outer s H args us vs Q E a1 a2 a3 a4 a5 z=>h4.run A outer s H args us vs Q E a1 a2 a3 a4 a5 (go _ _ _ _ z)⟩
theorem fits_of {T:Tab}{kn:Str→Str→Bool}{k0:Nat}(L:ZfK P w K mg base T kn k0):∀n,Fits T.cfg (cT T n) kn (ctx P w K mg base (clOf mg) (lev k0 n)):=by
 have zero:∀c f d,T.df c f=some d→c ≠ "" ∨T.bs f=none→∀ds S Q,¬spC (cT T 0) c f ds S Q:=by
  rintro c f d hd hc ds S Q ⟨w,Q0,sim,h,k⟩
  have e:cT T 0 c f ds w Q0=(match T.bs f with
   | some b=>c = "" ∧bsV b ds w Q0
   | none=>False):=rfl
  rw[e] at h
  cases hb:T.bs f with
  | none=>rw[hb] at h;exact h
  | some b=>
    rw[hb] at h
    rcases hc with hc | hc
    · exact hc h.1
    · rw[hb] at hc;cases hc
 have dj:∀f d,T.df "" f=some d→T.bs f=none:=fun f d hd=>by
  cases hb:T.bs f with
  | none=>rfl
  | some b=>rw[L.dj f b hb] at hd;cases hd
 have ok0:∀c f d,T.df c f=some d→∀k,FOk (ctx P w K mg base (clOf mg) k) d.n d.ps d.body (spC (cT T 0) c f):=fun c f d hd k=>ZiX (zero c f d hd (by
  by_cases hc:c = ""
  · subst hc;exact .inr (dj f d hd)
  · exact .inl hc))
 have lkD:∀(f:Str) (d:PDef) (sp:ZA) (k:Nat),T.df "" f=some d→(∀ds S Q Q',(∀d S',Q d S'→Q' d S')→sp ds S Q→sp ds S Q')→FOk (ctx P w K mg base (clOf mg) k) d.n d.ps d.body sp→LkD P w K mg base (clOf mg) (k+1) f sp:=by
  intro f d sp k hd mono ok
  obtain⟨kk,st,N,ps,rfl',hps,sc,ck,(⟨_,l,b⟩ |⟨z,_⟩ |⟨z,_⟩)⟩:=L.df "" f d hd
  · exact YY l sc b ck L.blt mono (by rw[rfl',hps];exact ok)
  · exact absurd rfl z
  · exact absurd rfl z
 have lkM:∀(c f:Str) (d:PDef) (sp:ZA) (k:Nat),c ≠ "" →f ≠ "__init__" →T.df c f=some d→(∀ds S Q Q',(∀d S',Q d S'→Q' d S')→sp ds S Q→sp ds S Q')→FOk (ctx P w K mg base (clOf mg) k) d.n d.ps d.body sp→LkM P w K mg base (clOf mg) (k+1) c f sp:=by
  intro c f d sp k hc hf hd mono ok
  obtain⟨kk,st,N,ps,rfl',hps,sc,ck,(⟨z,_⟩ |⟨_,_,qn,l,b⟩ |⟨_,z,_⟩)⟩:=L.df c f d hd
  · exact absurd z hc
  · exact Zhw l rfl sc b ck L.blt mono (by rw[rfl',hps];exact ok)
  · exact absurd z hf
 have lkI:∀(c:Str) (d:PDef) (sp:ZA) (k:Nat),c ≠ "" →T.df c "__init__" = some d→(∀ds S Q Q',(∀d S',Q d S'→Q' d S')→sp ds S Q→sp ds S Q')→FOk (ctx P w K mg base (clOf mg) k) d.n d.ps d.body sp→LkI P w K mg base (clOf mg) (k+2) c sp:=by
  intro c d sp k hc hd mono ok
  obtain⟨kk,st,N,ps,rfl',hps,sc,ck,(⟨z,_⟩ |⟨_,z,_⟩ |⟨_,_,qn,l,b⟩)⟩:=L.df c _ d hd
  · exact absurd z hc
  · exact absurd rfl z
  · exact Zhv l rfl sc b ck L.blt mono (by rw[rfl',hps];exact ok)
 have go:∀n k,k+2≤lev k0 n→k0≤lev k0 n→(∀c f d,T.df c f=some d→FOk (ctx P w K mg base (clOf mg) k) d.n d.ps d.body (spC (cT T n) c f))→Fits T.cfg (cT T n) kn (ctx P w K mg base (clOf mg) (lev k0 n)):=by
  intro n k hk hk0 ok
  refine⟨L.gl,L.fl,fun f hf=>?_,fun c m hm=>?_,fun c hc=>?_⟩
  · rcases L.kf f hf with ⟨d,hd⟩ |⟨b,hb⟩
    · exact⟨_,(lkD f d _ k hd Zaj (ok "" f d hd)).up (by omega),fun ds w S Q Q' sim h k=>⟨w,Q,sim,h,k⟩⟩
    · exact⟨_,(L.bs f b hb).up hk0,fun ds w S Q Q' sim h k=>ZnW (n:=n) hb (L.dj f b hb) ⟨w,Q,sim,h,k⟩⟩
  · obtain⟨h1,h2,d,hd⟩:=L.me c m hm
    exact⟨_,(lkM c m d _ k h1 h2 hd Zaj (ok c m d hd)).up (by omega),fun ds w S Q Q' sim h k=>⟨w,Q,sim,h,k⟩⟩
  · obtain⟨h1,d,hd⟩:=L.ki c hc
    exact⟨_,(lkI c d _ k h1 hd Zaj (ok c _ d hd)).up (by omega),fun ds w S Q Q' sim h k=>⟨w,Q,sim,h,k⟩⟩
 intro n
 induction n with
 | zero=>exact go 0 k0 (by unfold lev;omega) (by unfold lev;omega) fun c f d hd=>ok0 c f d hd k0
 | succ n ih=>exact go (n+1) (lev k0 n) (by unfold lev;omega) (by unfold lev;omega) fun c f d hd=>ZmS ih hd (L.df c f d hd).kn
def w00:W:=⟨none,0,fun _=>none⟩
theorem Znj {T:Tab}{kn:Str→Str→Bool}{k0 n:Nat}(L:ZfK P w K mg base T kn k0)(hk:kn "" "law" = true)
  (h:∀ns:List Int,ns.length≤63→cT T n "" "law" [.scr (ns.map .int)] w00 fun d _=>d=.bl true):LkD P w K mg base (clOf mg) (lev k0 n) "law" (V5 63):=by
 obtain⟨sp,l,hsp⟩:=(fits_of L n).fn "law" hk
 refine LkD.imp l (Zf3 63) ?_
 rintro ds S Q ⟨ns,rfl,hl,hS,q⟩
 refine hsp _ w00 S _ Q ⟨fun a u e=>(by cases e),fun p hp=>(by cases hp)⟩ (h ns hl) fun d w1 S1 e _=>?_
 subst e
 exact q S1
end
end Vw
namespace Vw
open PySem Sw
@[simp] theorem Zq1 {x:List D}{Q:List D→Prop}:optL (some x) Q=Q x:=nr rfl
@[simp] theorem ZqZ {x:PEnv}{Q:PEnv→Prop}:optE (some x) Q=Q x:=nr rfl
@[simp] theorem Zq0 {c:Str}{fs:List (Str×D)}{Q:Str→List (Str×D)→Prop}:optI (some (c,fs)) Q=Q c fs:=nr rfl
@[simp] theorem Zq3 {x:Za}{Q:Za→Prop}:optS (some x) Q=Q x:=nr rfl
@[simp] theorem Zrx {i:Int}{Q:Int→Prop}:intD (.int i) Q=Q i:=nr rfl
@[simp] theorem ZrT {ds:List D}{Q:List D→Prop}:lstD (.lst ds) Q=Q ds:=nr rfl
@[simp] theorem ZrX {c:Prop}[Decidable c]{x:List D}{Q:List D→Prop}:optL (if c then some x else none) Q=(c∧Q x):=by
 split
 · next h=>simp[h]
 · next h=>simp[h,optL]
def lkV (o:Option (Option (Bool×D)))(md:Md)(Q:D→Prop):Prop:=match o with
 | some (some (false,d))=>Q d
 | some (some (true,d))=>match md with | .ex=>False | .op=>Q d | .pu=>d.pure=true∧Q d
 | _=>False
@[simp] theorem ZxQ {d:D}{md:Md}{Q:D→Prop}:lkV (some (some (false,d))) md Q=Q d:=nr rfl
@[simp] theorem Zwv {d:D}{Q:D→Prop}:lkV (some (some (true,d))) .op Q=Q d:=nr rfl
@[simp] theorem Zww {d:D}{Q:D→Prop}:lkV (some (some (true,d))) .pu Q=(d.pure=true∧Q d):=nr rfl
theorem ZcO {md:Md}{ρ:PEnv}{i:Nat}{Q:D→Prop}:atV md ρ i Q=lkV (ρ[i]?) md Q:=rfl
def ownC (o:Option (Option (Bool×D)))(P:D→Prop)(R:Prop):Prop:=match o with | some (some (true,d))=>P d | _=>R
@[simp] theorem Zwy {d:D}{P:D→Prop}{R:Prop}:ownC (some (some (true,d))) P R=P d:=nr rfl
@[simp] theorem Zwx {d:D}{P:D→Prop}{R:Prop}:ownC (some (some (false,d))) P R=R:=nr rfl
@[simp ↓] theorem ZuG {d:D}{Q:D→Prop}:optD (some d) Q=Q d:=nr rfl
@[simp ↓] theorem ZuF {d:Bool}{Q:Bool→Prop}:optB (some d) Q=Q d:=nr rfl
@[simp ↓] theorem ZuJ {x:List D}{Q:List D→Prop}:optL (some x) Q=Q x:=nr rfl
@[simp ↓] theorem ZuH {x:PEnv}{Q:PEnv→Prop}:optE (some x) Q=Q x:=nr rfl
@[simp ↓] theorem ZuI {c:Str}{fs:List (Str×D)}{Q:Str→List (Str×D)→Prop}:optI (some (c,fs)) Q=Q c fs:=nr rfl
@[simp ↓] theorem ZuK {x:Za}{Q:Za→Prop}:optS (some x) Q=Q x:=nr rfl
@[simp ↓] theorem Zsv {i:Int}{Q:Int→Prop}:intD (.int i) Q=Q i:=nr rfl
@[simp ↓] theorem Zsw {ds:List D}{Q:List D→Prop}:lstD (.lst ds) Q=Q ds:=nr rfl
@[simp ↓] theorem pV_f {d:D}{md:Md}{Q:D→Prop}:lkV (some (some (false,d))) md Q=Q d:=nr rfl
@[simp ↓] theorem ZwA {d:D}{P:D→Prop}{R:Prop}:ownC (some (some (true,d))) P R=P d:=nr rfl
@[simp ↓] theorem Zwz {d:D}{P:D→Prop}{R:Prop}:ownC (some (some (false,d))) P R=R:=nr rfl
@[simp ↓] theorem ZxR {d:D}{Q:D→Prop}:lkV (some (some (true,d))) .op Q=Q d:=nr rfl
def letE (ρ:PEnv)(Q:PEnv→Prop):Prop:=Q ρ
@[simp] theorem Zts {ρ:PEnv}{Q:PEnv→Prop}:letE ρ Q=Q ρ:=nr rfl
def letS (ρ:PEnv)(i:Nat)(o:Option (Bool×D))(Q:PEnv→Prop):Prop:=Q (ρ.set i o)
def lkI (ρ:PEnv)(i:Nat)(md:Md)(Q:D→Prop):Prop:=lkV (ρ[i]?) md Q
def ownI (ρ:PEnv)(i:Nat)(P:D→Prop)(R:Prop):Prop:=ownC (ρ[i]?) P R
@[simp ↓] theorem ZvL {y o:Option (Bool×D)}{l:PEnv}{Q:PEnv→Prop}:letS (y :: l) 0 o Q=Q (o :: l):=nr rfl
@[simp ↓] theorem ZxG {d:D}{l:PEnv}{md:Md}{Q:D→Prop}:lkI (some (false,d) :: l) 0 md Q=Q d:=nr rfl
@[simp ↓] theorem Zwb {d:D}{l:PEnv}{Q:D→Prop}:lkI (some (true,d) :: l) 0 .op Q=Q d:=nr rfl
@[simp ↓] theorem Zwl {d:D}{l:PEnv}{Q:D→Prop}:lkI (some (true,d) :: l) 0 .pu Q=(d.pure=true∧Q d):=nr rfl
@[simp ↓] theorem Zuv {d:D}{l:PEnv}{P:D→Prop}{R:Prop}:ownI (some (true,d) :: l) 0 P R=P d:=nr rfl
@[simp ↓] theorem Zul {d:D}{l:PEnv}{P:D→Prop}{R:Prop}:ownI (some (false,d) :: l) 0 P R=R:=nr rfl
@[simp ↓] theorem ZvM {x0:Option (Bool×D)}{y o:Option (Bool×D)}{l:PEnv}{Q:PEnv→Prop}:letS (x0 :: y :: l) 1 o Q=Q (x0 :: o :: l):=nr rfl
@[simp ↓] theorem ZxH {x0:Option (Bool×D)}{d:D}{l:PEnv}{md:Md}{Q:D→Prop}:lkI (x0 :: some (false,d) :: l) 1 md Q=Q d:=nr rfl
@[simp ↓] theorem Zwc {x0:Option (Bool×D)}{d:D}{l:PEnv}{Q:D→Prop}:lkI (x0 :: some (true,d) :: l) 1 .op Q=Q d:=nr rfl
@[simp ↓] theorem Zwm {x0:Option (Bool×D)}{d:D}{l:PEnv}{Q:D→Prop}:lkI (x0 :: some (true,d) :: l) 1 .pu Q=(d.pure=true∧Q d):=nr rfl
@[simp ↓] theorem Zuw {x0:Option (Bool×D)}{d:D}{l:PEnv}{P:D→Prop}{R:Prop}:ownI (x0 :: some (true,d) :: l) 1 P R=P d:=nr rfl
@[simp ↓] theorem Zum {x0:Option (Bool×D)}{d:D}{l:PEnv}{P:D→Prop}{R:Prop}:ownI (x0 :: some (false,d) :: l) 1 P R=R:=nr rfl
@[simp ↓] theorem ZvN {x0 x1:Option (Bool×D)}{y o:Option (Bool×D)}{l:PEnv}{Q:PEnv→Prop}:letS (x0 :: x1 :: y :: l) 2 o Q=Q (x0 :: x1 :: o :: l):=nr rfl
@[simp ↓] theorem ZxI {x0 x1:Option (Bool×D)}{d:D}{l:PEnv}{md:Md}{Q:D→Prop}:lkI (x0 :: x1 :: some (false,d) :: l) 2 md Q=Q d:=nr rfl
@[simp ↓] theorem Zwd {x0 x1:Option (Bool×D)}{d:D}{l:PEnv}{Q:D→Prop}:lkI (x0 :: x1 :: some (true,d) :: l) 2 .op Q=Q d:=nr rfl
@[simp ↓] theorem Zwn {x0 x1:Option (Bool×D)}{d:D}{l:PEnv}{Q:D→Prop}:lkI (x0 :: x1 :: some (true,d) :: l) 2 .pu Q=(d.pure=true∧Q d):=nr rfl
@[simp ↓] theorem Zux {x0 x1:Option (Bool×D)}{d:D}{l:PEnv}{P:D→Prop}{R:Prop}:ownI (x0 :: x1 :: some (true,d) :: l) 2 P R=P d:=nr rfl
@[simp ↓] theorem Zun {x0 x1:Option (Bool×D)}{d:D}{l:PEnv}{P:D→Prop}{R:Prop}:ownI (x0 :: x1 :: some (false,d) :: l) 2 P R=R:=nr rfl
@[simp ↓] theorem ZvO {x0 x1 x2:Option (Bool×D)}{y o:Option (Bool×D)}{l:PEnv}{Q:PEnv→Prop}:letS (x0 :: x1 :: x2 :: y :: l) 3 o Q=Q (x0 :: x1 :: x2 :: o :: l):=nr rfl
@[simp ↓] theorem ZxJ {x0 x1 x2:Option (Bool×D)}{d:D}{l:PEnv}{md:Md}{Q:D→Prop}:lkI (x0 :: x1 :: x2 :: some (false,d) :: l) 3 md Q=Q d:=nr rfl
@[simp ↓] theorem Zwe {x0 x1 x2:Option (Bool×D)}{d:D}{l:PEnv}{Q:D→Prop}:lkI (x0 :: x1 :: x2 :: some (true,d) :: l) 3 .op Q=Q d:=nr rfl
@[simp ↓] theorem Zwo {x0 x1 x2:Option (Bool×D)}{d:D}{l:PEnv}{Q:D→Prop}:lkI (x0 :: x1 :: x2 :: some (true,d) :: l) 3 .pu Q=(d.pure=true∧Q d):=nr rfl
@[simp ↓] theorem Zuy {x0 x1 x2:Option (Bool×D)}{d:D}{l:PEnv}{P:D→Prop}{R:Prop}:ownI (x0 :: x1 :: x2 :: some (true,d) :: l) 3 P R=P d:=nr rfl
@[simp ↓] theorem Zuo {x0 x1 x2:Option (Bool×D)}{d:D}{l:PEnv}{P:D→Prop}{R:Prop}:ownI (x0 :: x1 :: x2 :: some (false,d) :: l) 3 P R=R:=nr rfl
@[simp ↓] theorem ZvP {x0 x1 x2 x3:Option (Bool×D)}{y o:Option (Bool×D)}{l:PEnv}{Q:PEnv→Prop}:letS (x0 :: x1 :: x2 :: x3 :: y :: l) 4 o Q=Q (x0 :: x1 :: x2 :: x3 :: o :: l):=nr rfl
@[simp ↓] theorem ZxK {x0 x1 x2 x3:Option (Bool×D)}{d:D}{l:PEnv}{md:Md}{Q:D→Prop}:lkI (x0 :: x1 :: x2 :: x3 :: some (false,d) :: l) 4 md Q=Q d:=nr rfl
@[simp ↓] theorem Zwf {x0 x1 x2 x3:Option (Bool×D)}{d:D}{l:PEnv}{Q:D→Prop}:lkI (x0 :: x1 :: x2 :: x3 :: some (true,d) :: l) 4 .op Q=Q d:=nr rfl
@[simp ↓] theorem Zwp {x0 x1 x2 x3:Option (Bool×D)}{d:D}{l:PEnv}{Q:D→Prop}:lkI (x0 :: x1 :: x2 :: x3 :: some (true,d) :: l) 4 .pu Q=(d.pure=true∧Q d):=nr rfl
@[simp ↓] theorem Zuz {x0 x1 x2 x3:Option (Bool×D)}{d:D}{l:PEnv}{P:D→Prop}{R:Prop}:ownI (x0 :: x1 :: x2 :: x3 :: some (true,d) :: l) 4 P R=P d:=nr rfl
@[simp ↓] theorem Zup {x0 x1 x2 x3:Option (Bool×D)}{d:D}{l:PEnv}{P:D→Prop}{R:Prop}:ownI (x0 :: x1 :: x2 :: x3 :: some (false,d) :: l) 4 P R=R:=nr rfl
@[simp ↓] theorem ZvQ {x0 x1 x2 x3 x4:Option (Bool×D)}{y o:Option (Bool×D)}{l:PEnv}{Q:PEnv→Prop}:letS (x0 :: x1 :: x2 :: x3 :: x4 :: y :: l) 5 o Q=Q (x0 :: x1 :: x2 :: x3 :: x4 :: o :: l):=nr rfl
@[simp ↓] theorem ZxL {x0 x1 x2 x3 x4:Option (Bool×D)}{d:D}{l:PEnv}{md:Md}{Q:D→Prop}:lkI (x0 :: x1 :: x2 :: x3 :: x4 :: some (false,d) :: l) 5 md Q=Q d:=nr rfl
@[simp ↓] theorem Zwg {x0 x1 x2 x3 x4:Option (Bool×D)}{d:D}{l:PEnv}{Q:D→Prop}:lkI (x0 :: x1 :: x2 :: x3 :: x4 :: some (true,d) :: l) 5 .op Q=Q d:=nr rfl
@[simp ↓] theorem Zwq {x0 x1 x2 x3 x4:Option (Bool×D)}{d:D}{l:PEnv}{Q:D→Prop}:lkI (x0 :: x1 :: x2 :: x3 :: x4 :: some (true,d) :: l) 5 .pu Q=(d.pure=true∧Q d):=nr rfl
@[simp ↓] theorem ZuA {x0 x1 x2 x3 x4:Option (Bool×D)}{d:D}{l:PEnv}{P:D→Prop}{R:Prop}:ownI (x0 :: x1 :: x2 :: x3 :: x4 :: some (true,d) :: l) 5 P R=P d:=nr rfl
@[simp ↓] theorem Zuq {x0 x1 x2 x3 x4:Option (Bool×D)}{d:D}{l:PEnv}{P:D→Prop}{R:Prop}:ownI (x0 :: x1 :: x2 :: x3 :: x4 :: some (false,d) :: l) 5 P R=R:=nr rfl
@[simp ↓] theorem ZvR {x0 x1 x2 x3 x4 x5:Option (Bool×D)}{y o:Option (Bool×D)}{l:PEnv}{Q:PEnv→Prop}:letS (x0 :: x1 :: x2 :: x3 :: x4 :: x5 :: y :: l) 6 o Q=Q (x0 :: x1 :: x2 :: x3 :: x4 :: x5 :: o :: l):=nr rfl
@[simp ↓] theorem ZxM {x0 x1 x2 x3 x4 x5:Option (Bool×D)}{d:D}{l:PEnv}{md:Md}{Q:D→Prop}:lkI (x0 :: x1 :: x2 :: x3 :: x4 :: x5 :: some (false,d) :: l) 6 md Q=Q d:=nr rfl
@[simp ↓] theorem Zwh {x0 x1 x2 x3 x4 x5:Option (Bool×D)}{d:D}{l:PEnv}{Q:D→Prop}:lkI (x0 :: x1 :: x2 :: x3 :: x4 :: x5 :: some (true,d) :: l) 6 .op Q=Q d:=nr rfl
@[simp ↓] theorem Zwr {x0 x1 x2 x3 x4 x5:Option (Bool×D)}{d:D}{l:PEnv}{Q:D→Prop}:lkI (x0 :: x1 :: x2 :: x3 :: x4 :: x5 :: some (true,d) :: l) 6 .pu Q=(d.pure=true∧Q d):=nr rfl
@[simp ↓] theorem ZuB {x0 x1 x2 x3 x4 x5:Option (Bool×D)}{d:D}{l:PEnv}{P:D→Prop}{R:Prop}:ownI (x0 :: x1 :: x2 :: x3 :: x4 :: x5 :: some (true,d) :: l) 6 P R=P d:=nr rfl
@[simp ↓] theorem Zur {x0 x1 x2 x3 x4 x5:Option (Bool×D)}{d:D}{l:PEnv}{P:D→Prop}{R:Prop}:ownI (x0 :: x1 :: x2 :: x3 :: x4 :: x5 :: some (false,d) :: l) 6 P R=R:=nr rfl
@[simp ↓] theorem ZvS {x0 x1 x2 x3 x4 x5 x6:Option (Bool×D)}{y o:Option (Bool×D)}{l:PEnv}{Q:PEnv→Prop}:letS (x0 :: x1 :: x2 :: x3 :: x4 :: x5 :: x6 :: y :: l) 7 o Q=Q (x0 :: x1 :: x2 :: x3 :: x4 :: x5 :: x6 :: o :: l):=nr rfl
@[simp ↓] theorem ZxN {x0 x1 x2 x3 x4 x5 x6:Option (Bool×D)}{d:D}{l:PEnv}{md:Md}{Q:D→Prop}:lkI (x0 :: x1 :: x2 :: x3 :: x4 :: x5 :: x6 :: some (false,d) :: l) 7 md Q=Q d:=nr rfl
@[simp ↓] theorem Zwi {x0 x1 x2 x3 x4 x5 x6:Option (Bool×D)}{d:D}{l:PEnv}{Q:D→Prop}:lkI (x0 :: x1 :: x2 :: x3 :: x4 :: x5 :: x6 :: some (true,d) :: l) 7 .op Q=Q d:=nr rfl
@[simp ↓] theorem Zws {x0 x1 x2 x3 x4 x5 x6:Option (Bool×D)}{d:D}{l:PEnv}{Q:D→Prop}:lkI (x0 :: x1 :: x2 :: x3 :: x4 :: x5 :: x6 :: some (true,d) :: l) 7 .pu Q=(d.pure=true∧Q d):=nr rfl
@[simp ↓] theorem ZuC {x0 x1 x2 x3 x4 x5 x6:Option (Bool×D)}{d:D}{l:PEnv}{P:D→Prop}{R:Prop}:ownI (x0 :: x1 :: x2 :: x3 :: x4 :: x5 :: x6 :: some (true,d) :: l) 7 P R=P d:=nr rfl
@[simp ↓] theorem Zus {x0 x1 x2 x3 x4 x5 x6:Option (Bool×D)}{d:D}{l:PEnv}{P:D→Prop}{R:Prop}:ownI (x0 :: x1 :: x2 :: x3 :: x4 :: x5 :: x6 :: some (false,d) :: l) 7 P R=R:=nr rfl
@[simp ↓] theorem ZvT {x0 x1 x2 x3 x4 x5 x6 x7:Option (Bool×D)}{y o:Option (Bool×D)}{l:PEnv}{Q:PEnv→Prop}:letS (x0 :: x1 :: x2 :: x3 :: x4 :: x5 :: x6 :: x7 :: y :: l) 8 o Q=Q (x0 :: x1 :: x2 :: x3 :: x4 :: x5 :: x6 :: x7 :: o :: l):=nr rfl
@[simp ↓] theorem ZxO {x0 x1 x2 x3 x4 x5 x6 x7:Option (Bool×D)}{d:D}{l:PEnv}{md:Md}{Q:D→Prop}:lkI (x0 :: x1 :: x2 :: x3 :: x4 :: x5 :: x6 :: x7 :: some (false,d) :: l) 8 md Q=Q d:=nr rfl
@[simp ↓] theorem Zwj {x0 x1 x2 x3 x4 x5 x6 x7:Option (Bool×D)}{d:D}{l:PEnv}{Q:D→Prop}:lkI (x0 :: x1 :: x2 :: x3 :: x4 :: x5 :: x6 :: x7 :: some (true,d) :: l) 8 .op Q=Q d:=nr rfl
@[simp ↓] theorem Zwt {x0 x1 x2 x3 x4 x5 x6 x7:Option (Bool×D)}{d:D}{l:PEnv}{Q:D→Prop}:lkI (x0 :: x1 :: x2 :: x3 :: x4 :: x5 :: x6 :: x7 :: some (true,d) :: l) 8 .pu Q=(d.pure=true∧Q d):=nr rfl
@[simp ↓] theorem ZuD {x0 x1 x2 x3 x4 x5 x6 x7:Option (Bool×D)}{d:D}{l:PEnv}{P:D→Prop}{R:Prop}:ownI (x0 :: x1 :: x2 :: x3 :: x4 :: x5 :: x6 :: x7 :: some (true,d) :: l) 8 P R=P d:=nr rfl
@[simp ↓] theorem Zut {x0 x1 x2 x3 x4 x5 x6 x7:Option (Bool×D)}{d:D}{l:PEnv}{P:D→Prop}{R:Prop}:ownI (x0 :: x1 :: x2 :: x3 :: x4 :: x5 :: x6 :: x7 :: some (false,d) :: l) 8 P R=R:=nr rfl
@[simp ↓] theorem ZvU {x0 x1 x2 x3 x4 x5 x6 x7 x8:Option (Bool×D)}{y o:Option (Bool×D)}{l:PEnv}{Q:PEnv→Prop}:letS (x0 :: x1 :: x2 :: x3 :: x4 :: x5 :: x6 :: x7 :: x8 :: y :: l) 9 o Q=Q (x0 :: x1 :: x2 :: x3 :: x4 :: x5 :: x6 :: x7 :: x8 :: o :: l):=nr rfl
@[simp ↓] theorem ZxP {x0 x1 x2 x3 x4 x5 x6 x7 x8:Option (Bool×D)}{d:D}{l:PEnv}{md:Md}{Q:D→Prop}:lkI (x0 :: x1 :: x2 :: x3 :: x4 :: x5 :: x6 :: x7 :: x8 :: some (false,d) :: l) 9 md Q=Q d:=nr rfl
@[simp ↓] theorem Zwk {x0 x1 x2 x3 x4 x5 x6 x7 x8:Option (Bool×D)}{d:D}{l:PEnv}{Q:D→Prop}:lkI (x0 :: x1 :: x2 :: x3 :: x4 :: x5 :: x6 :: x7 :: x8 :: some (true,d) :: l) 9 .op Q=Q d:=nr rfl
@[simp ↓] theorem Zwu {x0 x1 x2 x3 x4 x5 x6 x7 x8:Option (Bool×D)}{d:D}{l:PEnv}{Q:D→Prop}:lkI (x0 :: x1 :: x2 :: x3 :: x4 :: x5 :: x6 :: x7 :: x8 :: some (true,d) :: l) 9 .pu Q=(d.pure=true∧Q d):=nr rfl
@[simp ↓] theorem ZuE {x0 x1 x2 x3 x4 x5 x6 x7 x8:Option (Bool×D)}{d:D}{l:PEnv}{P:D→Prop}{R:Prop}:ownI (x0 :: x1 :: x2 :: x3 :: x4 :: x5 :: x6 :: x7 :: x8 :: some (true,d) :: l) 9 P R=P d:=nr rfl
@[simp ↓] theorem Zuu {x0 x1 x2 x3 x4 x5 x6 x7 x8:Option (Bool×D)}{d:D}{l:PEnv}{P:D→Prop}{R:Prop}:ownI (x0 :: x1 :: x2 :: x3 :: x4 :: x5 :: x6 :: x7 :: x8 :: some (false,d) :: l) 9 P R=R:=nr rfl
@[simp ↓] theorem Ztt {x0 x1 x2 x3 x4 x5 x6 x7 x8 x9:Option (Bool×D)}{y o:Option (Bool×D)}{l:PEnv}{Q:PEnv→Prop}:letS (x0 :: x1 :: x2 :: x3 :: x4 :: x5 :: x6 :: x7 :: x8 :: x9 :: y :: l) 10 o Q=Q (x0 :: x1 :: x2 :: x3 :: x4 :: x5 :: x6 :: x7 :: x8 :: x9 :: o :: l):=nr rfl
@[simp ↓] theorem ZvV {x0 x1 x2 x3 x4 x5 x6 x7 x8 x9:Option (Bool×D)}{d:D}{l:PEnv}{md:Md}{Q:D→Prop}:lkI (x0 :: x1 :: x2 :: x3 :: x4 :: x5 :: x6 :: x7 :: x8 :: x9 :: some (false,d) :: l) 10 md Q=Q d:=nr rfl
@[simp ↓] theorem ZtJ {x0 x1 x2 x3 x4 x5 x6 x7 x8 x9:Option (Bool×D)}{d:D}{l:PEnv}{Q:D→Prop}:lkI (x0 :: x1 :: x2 :: x3 :: x4 :: x5 :: x6 :: x7 :: x8 :: x9 :: some (true,d) :: l) 10 .op Q=Q d:=nr rfl
@[simp ↓] theorem ZtZ {x0 x1 x2 x3 x4 x5 x6 x7 x8 x9:Option (Bool×D)}{d:D}{l:PEnv}{Q:D→Prop}:lkI (x0 :: x1 :: x2 :: x3 :: x4 :: x5 :: x6 :: x7 :: x8 :: x9 :: some (true,d) :: l) 10 .pu Q=(d.pure=true∧Q d):=nr rfl
@[simp ↓] theorem Zsf {x0 x1 x2 x3 x4 x5 x6 x7 x8 x9:Option (Bool×D)}{d:D}{l:PEnv}{P:D→Prop}{R:Prop}:ownI (x0 :: x1 :: x2 :: x3 :: x4 :: x5 :: x6 :: x7 :: x8 :: x9 :: some (true,d) :: l) 10 P R=P d:=nr rfl
@[simp ↓] theorem ZrZ {x0 x1 x2 x3 x4 x5 x6 x7 x8 x9:Option (Bool×D)}{d:D}{l:PEnv}{P:D→Prop}{R:Prop}:ownI (x0 :: x1 :: x2 :: x3 :: x4 :: x5 :: x6 :: x7 :: x8 :: x9 :: some (false,d) :: l) 10 P R=R:=nr rfl
@[simp ↓] theorem Ztu {x0 x1 x2 x3 x4 x5 x6 x7 x8 x9 x10:Option (Bool×D)}{y o:Option (Bool×D)}{l:PEnv}{Q:PEnv→Prop}:letS (x0 :: x1 :: x2 :: x3 :: x4 :: x5 :: x6 :: x7 :: x8 :: x9 :: x10 :: y :: l) 11 o Q=Q (x0 :: x1 :: x2 :: x3 :: x4 :: x5 :: x6 :: x7 :: x8 :: x9 :: x10 :: o :: l):=nr rfl
@[simp ↓] theorem ZvW {x0 x1 x2 x3 x4 x5 x6 x7 x8 x9 x10:Option (Bool×D)}{d:D}{l:PEnv}{md:Md}{Q:D→Prop}:lkI (x0 :: x1 :: x2 :: x3 :: x4 :: x5 :: x6 :: x7 :: x8 :: x9 :: x10 :: some (false,d) :: l) 11 md Q=Q d:=nr rfl
@[simp ↓] theorem ZtK {x0 x1 x2 x3 x4 x5 x6 x7 x8 x9 x10:Option (Bool×D)}{d:D}{l:PEnv}{Q:D→Prop}:lkI (x0 :: x1 :: x2 :: x3 :: x4 :: x5 :: x6 :: x7 :: x8 :: x9 :: x10 :: some (true,d) :: l) 11 .op Q=Q d:=nr rfl
@[simp ↓] theorem Zt0 {x0 x1 x2 x3 x4 x5 x6 x7 x8 x9 x10:Option (Bool×D)}{d:D}{l:PEnv}{Q:D→Prop}:lkI (x0 :: x1 :: x2 :: x3 :: x4 :: x5 :: x6 :: x7 :: x8 :: x9 :: x10 :: some (true,d) :: l) 11 .pu Q=(d.pure=true∧Q d):=nr rfl
@[simp ↓] theorem Zsg {x0 x1 x2 x3 x4 x5 x6 x7 x8 x9 x10:Option (Bool×D)}{d:D}{l:PEnv}{P:D→Prop}{R:Prop}:ownI (x0 :: x1 :: x2 :: x3 :: x4 :: x5 :: x6 :: x7 :: x8 :: x9 :: x10 :: some (true,d) :: l) 11 P R=P d:=nr rfl
@[simp ↓] theorem Zr0 {x0 x1 x2 x3 x4 x5 x6 x7 x8 x9 x10:Option (Bool×D)}{d:D}{l:PEnv}{P:D→Prop}{R:Prop}:ownI (x0 :: x1 :: x2 :: x3 :: x4 :: x5 :: x6 :: x7 :: x8 :: x9 :: x10 :: some (false,d) :: l) 11 P R=R:=nr rfl
@[simp ↓] theorem Ztv {x0 x1 x2 x3 x4 x5 x6 x7 x8 x9 x10 x11:Option (Bool×D)}{y o:Option (Bool×D)}{l:PEnv}{Q:PEnv→Prop}:letS (x0 :: x1 :: x2 :: x3 :: x4 :: x5 :: x6 :: x7 :: x8 :: x9 :: x10 :: x11 :: y :: l) 12 o Q=Q (x0 :: x1 :: x2 :: x3 :: x4 :: x5 :: x6 :: x7 :: x8 :: x9 :: x10 :: x11 :: o :: l):=nr rfl
@[simp ↓] theorem ZvX {x0 x1 x2 x3 x4 x5 x6 x7 x8 x9 x10 x11:Option (Bool×D)}{d:D}{l:PEnv}{md:Md}{Q:D→Prop}:lkI (x0 :: x1 :: x2 :: x3 :: x4 :: x5 :: x6 :: x7 :: x8 :: x9 :: x10 :: x11 :: some (false,d) :: l) 12 md Q=Q d:=nr rfl
@[simp ↓] theorem ZtL {x0 x1 x2 x3 x4 x5 x6 x7 x8 x9 x10 x11:Option (Bool×D)}{d:D}{l:PEnv}{Q:D→Prop}:lkI (x0 :: x1 :: x2 :: x3 :: x4 :: x5 :: x6 :: x7 :: x8 :: x9 :: x10 :: x11 :: some (true,d) :: l) 12 .op Q=Q d:=nr rfl
@[simp ↓] theorem Zt1 {x0 x1 x2 x3 x4 x5 x6 x7 x8 x9 x10 x11:Option (Bool×D)}{d:D}{l:PEnv}{Q:D→Prop}:lkI (x0 :: x1 :: x2 :: x3 :: x4 :: x5 :: x6 :: x7 :: x8 :: x9 :: x10 :: x11 :: some (true,d) :: l) 12 .pu Q=(d.pure=true∧Q d):=nr rfl
@[simp ↓] theorem Zsh {x0 x1 x2 x3 x4 x5 x6 x7 x8 x9 x10 x11:Option (Bool×D)}{d:D}{l:PEnv}{P:D→Prop}{R:Prop}:ownI (x0 :: x1 :: x2 :: x3 :: x4 :: x5 :: x6 :: x7 :: x8 :: x9 :: x10 :: x11 :: some (true,d) :: l) 12 P R=P d:=nr rfl
@[simp ↓] theorem Zr1 {x0 x1 x2 x3 x4 x5 x6 x7 x8 x9 x10 x11:Option (Bool×D)}{d:D}{l:PEnv}{P:D→Prop}{R:Prop}:ownI (x0 :: x1 :: x2 :: x3 :: x4 :: x5 :: x6 :: x7 :: x8 :: x9 :: x10 :: x11 :: some (false,d) :: l) 12 P R=R:=nr rfl
@[simp ↓] theorem Ztw {x0 x1 x2 x3 x4 x5 x6 x7 x8 x9 x10 x11 x12:Option (Bool×D)}{y o:Option (Bool×D)}{l:PEnv}{Q:PEnv→Prop}:letS (x0 :: x1 :: x2 :: x3 :: x4 :: x5 :: x6 :: x7 :: x8 :: x9 :: x10 :: x11 :: x12 :: y :: l) 13 o Q=Q (x0 :: x1 :: x2 :: x3 :: x4 :: x5 :: x6 :: x7 :: x8 :: x9 :: x10 :: x11 :: x12 :: o :: l):=nr rfl
@[simp ↓] theorem ZvY {x0 x1 x2 x3 x4 x5 x6 x7 x8 x9 x10 x11 x12:Option (Bool×D)}{d:D}{l:PEnv}{md:Md}{Q:D→Prop}:lkI (x0 :: x1 :: x2 :: x3 :: x4 :: x5 :: x6 :: x7 :: x8 :: x9 :: x10 :: x11 :: x12 :: some (false,d) :: l) 13 md Q=Q d:=nr rfl
@[simp ↓] theorem ZtM {x0 x1 x2 x3 x4 x5 x6 x7 x8 x9 x10 x11 x12:Option (Bool×D)}{d:D}{l:PEnv}{Q:D→Prop}:lkI (x0 :: x1 :: x2 :: x3 :: x4 :: x5 :: x6 :: x7 :: x8 :: x9 :: x10 :: x11 :: x12 :: some (true,d) :: l) 13 .op Q=Q d:=nr rfl
@[simp ↓] theorem Zt2 {x0 x1 x2 x3 x4 x5 x6 x7 x8 x9 x10 x11 x12:Option (Bool×D)}{d:D}{l:PEnv}{Q:D→Prop}:lkI (x0 :: x1 :: x2 :: x3 :: x4 :: x5 :: x6 :: x7 :: x8 :: x9 :: x10 :: x11 :: x12 :: some (true,d) :: l) 13 .pu Q=(d.pure=true∧Q d):=nr rfl
@[simp ↓] theorem Zsi {x0 x1 x2 x3 x4 x5 x6 x7 x8 x9 x10 x11 x12:Option (Bool×D)}{d:D}{l:PEnv}{P:D→Prop}{R:Prop}:ownI (x0 :: x1 :: x2 :: x3 :: x4 :: x5 :: x6 :: x7 :: x8 :: x9 :: x10 :: x11 :: x12 :: some (true,d) :: l) 13 P R=P d:=nr rfl
@[simp ↓] theorem Zr2 {x0 x1 x2 x3 x4 x5 x6 x7 x8 x9 x10 x11 x12:Option (Bool×D)}{d:D}{l:PEnv}{P:D→Prop}{R:Prop}:ownI (x0 :: x1 :: x2 :: x3 :: x4 :: x5 :: x6 :: x7 :: x8 :: x9 :: x10 :: x11 :: x12 :: some (false,d) :: l) 13 P R=R:=nr rfl
@[simp ↓] theorem Ztx {x0 x1 x2 x3 x4 x5 x6 x7 x8 x9 x10 x11 x12 x13:Option (Bool×D)}{y o:Option (Bool×D)}{l:PEnv}{Q:PEnv→Prop}:letS (x0 :: x1 :: x2 :: x3 :: x4 :: x5 :: x6 :: x7 :: x8 :: x9 :: x10 :: x11 :: x12 :: x13 :: y :: l) 14 o Q=Q (x0 :: x1 :: x2 :: x3 :: x4 :: x5 :: x6 :: x7 :: x8 :: x9 :: x10 :: x11 :: x12 :: x13 :: o :: l):=nr rfl
@[simp ↓] theorem ZvZ {x0 x1 x2 x3 x4 x5 x6 x7 x8 x9 x10 x11 x12 x13:Option (Bool×D)}{d:D}{l:PEnv}{md:Md}{Q:D→Prop}:lkI (x0 :: x1 :: x2 :: x3 :: x4 :: x5 :: x6 :: x7 :: x8 :: x9 :: x10 :: x11 :: x12 :: x13 :: some (false,d) :: l) 14 md Q=Q d:=nr rfl
@[simp ↓] theorem ZtN {x0 x1 x2 x3 x4 x5 x6 x7 x8 x9 x10 x11 x12 x13:Option (Bool×D)}{d:D}{l:PEnv}{Q:D→Prop}:lkI (x0 :: x1 :: x2 :: x3 :: x4 :: x5 :: x6 :: x7 :: x8 :: x9 :: x10 :: x11 :: x12 :: x13 :: some (true,d) :: l) 14 .op Q=Q d:=nr rfl
@[simp ↓] theorem Zt3 {x0 x1 x2 x3 x4 x5 x6 x7 x8 x9 x10 x11 x12 x13:Option (Bool×D)}{d:D}{l:PEnv}{Q:D→Prop}:lkI (x0 :: x1 :: x2 :: x3 :: x4 :: x5 :: x6 :: x7 :: x8 :: x9 :: x10 :: x11 :: x12 :: x13 :: some (true,d) :: l) 14 .pu Q=(d.pure=true∧Q d):=nr rfl
@[simp ↓] theorem Zsj {x0 x1 x2 x3 x4 x5 x6 x7 x8 x9 x10 x11 x12 x13:Option (Bool×D)}{d:D}{l:PEnv}{P:D→Prop}{R:Prop}:ownI (x0 :: x1 :: x2 :: x3 :: x4 :: x5 :: x6 :: x7 :: x8 :: x9 :: x10 :: x11 :: x12 :: x13 :: some (true,d) :: l) 14 P R=P d:=nr rfl
@[simp ↓] theorem Zr3 {x0 x1 x2 x3 x4 x5 x6 x7 x8 x9 x10 x11 x12 x13:Option (Bool×D)}{d:D}{l:PEnv}{P:D→Prop}{R:Prop}:ownI (x0 :: x1 :: x2 :: x3 :: x4 :: x5 :: x6 :: x7 :: x8 :: x9 :: x10 :: x11 :: x12 :: x13 :: some (false,d) :: l) 14 P R=R:=nr rfl
@[simp ↓] theorem Zty {x0 x1 x2 x3 x4 x5 x6 x7 x8 x9 x10 x11 x12 x13 x14:Option (Bool×D)}{y o:Option (Bool×D)}{l:PEnv}{Q:PEnv→Prop}:letS (x0 :: x1 :: x2 :: x3 :: x4 :: x5 :: x6 :: x7 :: x8 :: x9 :: x10 :: x11 :: x12 :: x13 :: x14 :: y :: l) 15 o Q=Q (x0 :: x1 :: x2 :: x3 :: x4 :: x5 :: x6 :: x7 :: x8 :: x9 :: x10 :: x11 :: x12 :: x13 :: x14 :: o :: l):=nr rfl
@[simp ↓] theorem Zv0 {x0 x1 x2 x3 x4 x5 x6 x7 x8 x9 x10 x11 x12 x13 x14:Option (Bool×D)}{d:D}{l:PEnv}{md:Md}{Q:D→Prop}:lkI (x0 :: x1 :: x2 :: x3 :: x4 :: x5 :: x6 :: x7 :: x8 :: x9 :: x10 :: x11 :: x12 :: x13 :: x14 :: some (false,d) :: l) 15 md Q=Q d:=nr rfl
@[simp ↓] theorem ZtO {x0 x1 x2 x3 x4 x5 x6 x7 x8 x9 x10 x11 x12 x13 x14:Option (Bool×D)}{d:D}{l:PEnv}{Q:D→Prop}:lkI (x0 :: x1 :: x2 :: x3 :: x4 :: x5 :: x6 :: x7 :: x8 :: x9 :: x10 :: x11 :: x12 :: x13 :: x14 :: some (true,d) :: l) 15 .op Q=Q d:=nr rfl
@[simp ↓] theorem Zt4 {x0 x1 x2 x3 x4 x5 x6 x7 x8 x9 x10 x11 x12 x13 x14:Option (Bool×D)}{d:D}{l:PEnv}{Q:D→Prop}:lkI (x0 :: x1 :: x2 :: x3 :: x4 :: x5 :: x6 :: x7 :: x8 :: x9 :: x10 :: x11 :: x12 :: x13 :: x14 :: some (true,d) :: l) 15 .pu Q=(d.pure=true∧Q d):=nr rfl
@[simp ↓] theorem Zsk {x0 x1 x2 x3 x4 x5 x6 x7 x8 x9 x10 x11 x12 x13 x14:Option (Bool×D)}{d:D}{l:PEnv}{P:D→Prop}{R:Prop}:ownI (x0 :: x1 :: x2 :: x3 :: x4 :: x5 :: x6 :: x7 :: x8 :: x9 :: x10 :: x11 :: x12 :: x13 :: x14 :: some (true,d) :: l) 15 P R=P d:=nr rfl
@[simp ↓] theorem Zr4 {x0 x1 x2 x3 x4 x5 x6 x7 x8 x9 x10 x11 x12 x13 x14:Option (Bool×D)}{d:D}{l:PEnv}{P:D→Prop}{R:Prop}:ownI (x0 :: x1 :: x2 :: x3 :: x4 :: x5 :: x6 :: x7 :: x8 :: x9 :: x10 :: x11 :: x12 :: x13 :: x14 :: some (false,d) :: l) 15 P R=R:=nr rfl
@[simp ↓] theorem Ztz {x0 x1 x2 x3 x4 x5 x6 x7 x8 x9 x10 x11 x12 x13 x14 x15:Option (Bool×D)}{y o:Option (Bool×D)}{l:PEnv}{Q:PEnv→Prop}:letS (x0 :: x1 :: x2 :: x3 :: x4 :: x5 :: x6 :: x7 :: x8 :: x9 :: x10 :: x11 :: x12 :: x13 :: x14 :: x15 :: y :: l) 16 o Q=Q (x0 :: x1 :: x2 :: x3 :: x4 :: x5 :: x6 :: x7 :: x8 :: x9 :: x10 :: x11 :: x12 :: x13 :: x14 :: x15 :: o :: l):=nr rfl
@[simp ↓] theorem Zv1 {x0 x1 x2 x3 x4 x5 x6 x7 x8 x9 x10 x11 x12 x13 x14 x15:Option (Bool×D)}{d:D}{l:PEnv}{md:Md}{Q:D→Prop}:lkI (x0 :: x1 :: x2 :: x3 :: x4 :: x5 :: x6 :: x7 :: x8 :: x9 :: x10 :: x11 :: x12 :: x13 :: x14 :: x15 :: some (false,d) :: l) 16 md Q=Q d:=nr rfl
@[simp ↓] theorem ZtP {x0 x1 x2 x3 x4 x5 x6 x7 x8 x9 x10 x11 x12 x13 x14 x15:Option (Bool×D)}{d:D}{l:PEnv}{Q:D→Prop}:lkI (x0 :: x1 :: x2 :: x3 :: x4 :: x5 :: x6 :: x7 :: x8 :: x9 :: x10 :: x11 :: x12 :: x13 :: x14 :: x15 :: some (true,d) :: l) 16 .op Q=Q d:=nr rfl
@[simp ↓] theorem Zt5 {x0 x1 x2 x3 x4 x5 x6 x7 x8 x9 x10 x11 x12 x13 x14 x15:Option (Bool×D)}{d:D}{l:PEnv}{Q:D→Prop}:lkI (x0 :: x1 :: x2 :: x3 :: x4 :: x5 :: x6 :: x7 :: x8 :: x9 :: x10 :: x11 :: x12 :: x13 :: x14 :: x15 :: some (true,d) :: l) 16 .pu Q=(d.pure=true∧Q d):=nr rfl
@[simp ↓] theorem Zsl {x0 x1 x2 x3 x4 x5 x6 x7 x8 x9 x10 x11 x12 x13 x14 x15:Option (Bool×D)}{d:D}{l:PEnv}{P:D→Prop}{R:Prop}:ownI (x0 :: x1 :: x2 :: x3 :: x4 :: x5 :: x6 :: x7 :: x8 :: x9 :: x10 :: x11 :: x12 :: x13 :: x14 :: x15 :: some (true,d) :: l) 16 P R=P d:=nr rfl
@[simp ↓] theorem Zr5 {x0 x1 x2 x3 x4 x5 x6 x7 x8 x9 x10 x11 x12 x13 x14 x15:Option (Bool×D)}{d:D}{l:PEnv}{P:D→Prop}{R:Prop}:ownI (x0 :: x1 :: x2 :: x3 :: x4 :: x5 :: x6 :: x7 :: x8 :: x9 :: x10 :: x11 :: x12 :: x13 :: x14 :: x15 :: some (false,d) :: l) 16 P R=R:=nr rfl
@[simp ↓] theorem ZtA {x0 x1 x2 x3 x4 x5 x6 x7 x8 x9 x10 x11 x12 x13 x14 x15 x16:Option (Bool×D)}{y o:Option (Bool×D)}{l:PEnv}{Q:PEnv→Prop}:letS (x0 :: x1 :: x2 :: x3 :: x4 :: x5 :: x6 :: x7 :: x8 :: x9 :: x10 :: x11 :: x12 :: x13 :: x14 :: x15 :: x16 :: y :: l) 17 o Q=Q (x0 :: x1 :: x2 :: x3 :: x4 :: x5 :: x6 :: x7 :: x8 :: x9 :: x10 :: x11 :: x12 :: x13 :: x14 :: x15 :: x16 :: o :: l):=nr rfl
@[simp ↓] theorem Zv2 {x0 x1 x2 x3 x4 x5 x6 x7 x8 x9 x10 x11 x12 x13 x14 x15 x16:Option (Bool×D)}{d:D}{l:PEnv}{md:Md}{Q:D→Prop}:lkI (x0 :: x1 :: x2 :: x3 :: x4 :: x5 :: x6 :: x7 :: x8 :: x9 :: x10 :: x11 :: x12 :: x13 :: x14 :: x15 :: x16 :: some (false,d) :: l) 17 md Q=Q d:=nr rfl
@[simp ↓] theorem ZtQ {x0 x1 x2 x3 x4 x5 x6 x7 x8 x9 x10 x11 x12 x13 x14 x15 x16:Option (Bool×D)}{d:D}{l:PEnv}{Q:D→Prop}:lkI (x0 :: x1 :: x2 :: x3 :: x4 :: x5 :: x6 :: x7 :: x8 :: x9 :: x10 :: x11 :: x12 :: x13 :: x14 :: x15 :: x16 :: some (true,d) :: l) 17 .op Q=Q d:=nr rfl
@[simp ↓] theorem Zt6 {x0 x1 x2 x3 x4 x5 x6 x7 x8 x9 x10 x11 x12 x13 x14 x15 x16:Option (Bool×D)}{d:D}{l:PEnv}{Q:D→Prop}:lkI (x0 :: x1 :: x2 :: x3 :: x4 :: x5 :: x6 :: x7 :: x8 :: x9 :: x10 :: x11 :: x12 :: x13 :: x14 :: x15 :: x16 :: some (true,d) :: l) 17 .pu Q=(d.pure=true∧Q d):=nr rfl
@[simp ↓] theorem Zsm {x0 x1 x2 x3 x4 x5 x6 x7 x8 x9 x10 x11 x12 x13 x14 x15 x16:Option (Bool×D)}{d:D}{l:PEnv}{P:D→Prop}{R:Prop}:ownI (x0 :: x1 :: x2 :: x3 :: x4 :: x5 :: x6 :: x7 :: x8 :: x9 :: x10 :: x11 :: x12 :: x13 :: x14 :: x15 :: x16 :: some (true,d) :: l) 17 P R=P d:=nr rfl
@[simp ↓] theorem Zr6 {x0 x1 x2 x3 x4 x5 x6 x7 x8 x9 x10 x11 x12 x13 x14 x15 x16:Option (Bool×D)}{d:D}{l:PEnv}{P:D→Prop}{R:Prop}:ownI (x0 :: x1 :: x2 :: x3 :: x4 :: x5 :: x6 :: x7 :: x8 :: x9 :: x10 :: x11 :: x12 :: x13 :: x14 :: x15 :: x16 :: some (false,d) :: l) 17 P R=R:=nr rfl
@[simp ↓] theorem ZtB {x0 x1 x2 x3 x4 x5 x6 x7 x8 x9 x10 x11 x12 x13 x14 x15 x16 x17:Option (Bool×D)}{y o:Option (Bool×D)}{l:PEnv}{Q:PEnv→Prop}:letS (x0 :: x1 :: x2 :: x3 :: x4 :: x5 :: x6 :: x7 :: x8 :: x9 :: x10 :: x11 :: x12 :: x13 :: x14 :: x15 :: x16 :: x17 :: y :: l) 18 o Q=Q (x0 :: x1 :: x2 :: x3 :: x4 :: x5 :: x6 :: x7 :: x8 :: x9 :: x10 :: x11 :: x12 :: x13 :: x14 :: x15 :: x16 :: x17 :: o :: l):=nr rfl
@[simp ↓] theorem Zv3 {x0 x1 x2 x3 x4 x5 x6 x7 x8 x9 x10 x11 x12 x13 x14 x15 x16 x17:Option (Bool×D)}{d:D}{l:PEnv}{md:Md}{Q:D→Prop}:lkI (x0 :: x1 :: x2 :: x3 :: x4 :: x5 :: x6 :: x7 :: x8 :: x9 :: x10 :: x11 :: x12 :: x13 :: x14 :: x15 :: x16 :: x17 :: some (false,d) :: l) 18 md Q=Q d:=nr rfl
@[simp ↓] theorem ZtR {x0 x1 x2 x3 x4 x5 x6 x7 x8 x9 x10 x11 x12 x13 x14 x15 x16 x17:Option (Bool×D)}{d:D}{l:PEnv}{Q:D→Prop}:lkI (x0 :: x1 :: x2 :: x3 :: x4 :: x5 :: x6 :: x7 :: x8 :: x9 :: x10 :: x11 :: x12 :: x13 :: x14 :: x15 :: x16 :: x17 :: some (true,d) :: l) 18 .op Q=Q d:=nr rfl
@[simp ↓] theorem Zt7 {x0 x1 x2 x3 x4 x5 x6 x7 x8 x9 x10 x11 x12 x13 x14 x15 x16 x17:Option (Bool×D)}{d:D}{l:PEnv}{Q:D→Prop}:lkI (x0 :: x1 :: x2 :: x3 :: x4 :: x5 :: x6 :: x7 :: x8 :: x9 :: x10 :: x11 :: x12 :: x13 :: x14 :: x15 :: x16 :: x17 :: some (true,d) :: l) 18 .pu Q=(d.pure=true∧Q d):=nr rfl
@[simp ↓] theorem Zsn {x0 x1 x2 x3 x4 x5 x6 x7 x8 x9 x10 x11 x12 x13 x14 x15 x16 x17:Option (Bool×D)}{d:D}{l:PEnv}{P:D→Prop}{R:Prop}:ownI (x0 :: x1 :: x2 :: x3 :: x4 :: x5 :: x6 :: x7 :: x8 :: x9 :: x10 :: x11 :: x12 :: x13 :: x14 :: x15 :: x16 :: x17 :: some (true,d) :: l) 18 P R=P d:=nr rfl
@[simp ↓] theorem Zr7 {x0 x1 x2 x3 x4 x5 x6 x7 x8 x9 x10 x11 x12 x13 x14 x15 x16 x17:Option (Bool×D)}{d:D}{l:PEnv}{P:D→Prop}{R:Prop}:ownI (x0 :: x1 :: x2 :: x3 :: x4 :: x5 :: x6 :: x7 :: x8 :: x9 :: x10 :: x11 :: x12 :: x13 :: x14 :: x15 :: x16 :: x17 :: some (false,d) :: l) 18 P R=R:=nr rfl
@[simp ↓] theorem ZtC {x0 x1 x2 x3 x4 x5 x6 x7 x8 x9 x10 x11 x12 x13 x14 x15 x16 x17 x18:Option (Bool×D)}{y o:Option (Bool×D)}{l:PEnv}{Q:PEnv→Prop}:letS (x0 :: x1 :: x2 :: x3 :: x4 :: x5 :: x6 :: x7 :: x8 :: x9 :: x10 :: x11 :: x12 :: x13 :: x14 :: x15 :: x16 :: x17 :: x18 :: y :: l) 19 o Q=Q (x0 :: x1 :: x2 :: x3 :: x4 :: x5 :: x6 :: x7 :: x8 :: x9 :: x10 :: x11 :: x12 :: x13 :: x14 :: x15 :: x16 :: x17 :: x18 :: o :: l):=nr rfl
@[simp ↓] theorem Zv4 {x0 x1 x2 x3 x4 x5 x6 x7 x8 x9 x10 x11 x12 x13 x14 x15 x16 x17 x18:Option (Bool×D)}{d:D}{l:PEnv}{md:Md}{Q:D→Prop}:lkI (x0 :: x1 :: x2 :: x3 :: x4 :: x5 :: x6 :: x7 :: x8 :: x9 :: x10 :: x11 :: x12 :: x13 :: x14 :: x15 :: x16 :: x17 :: x18 :: some (false,d) :: l) 19 md Q=Q d:=nr rfl
@[simp ↓] theorem ZtS {x0 x1 x2 x3 x4 x5 x6 x7 x8 x9 x10 x11 x12 x13 x14 x15 x16 x17 x18:Option (Bool×D)}{d:D}{l:PEnv}{Q:D→Prop}:lkI (x0 :: x1 :: x2 :: x3 :: x4 :: x5 :: x6 :: x7 :: x8 :: x9 :: x10 :: x11 :: x12 :: x13 :: x14 :: x15 :: x16 :: x17 :: x18 :: some (true,d) :: l) 19 .op Q=Q d:=nr rfl
@[simp ↓] theorem Zt8 {x0 x1 x2 x3 x4 x5 x6 x7 x8 x9 x10 x11 x12 x13 x14 x15 x16 x17 x18:Option (Bool×D)}{d:D}{l:PEnv}{Q:D→Prop}:lkI (x0 :: x1 :: x2 :: x3 :: x4 :: x5 :: x6 :: x7 :: x8 :: x9 :: x10 :: x11 :: x12 :: x13 :: x14 :: x15 :: x16 :: x17 :: x18 :: some (true,d) :: l) 19 .pu Q=(d.pure=true∧Q d):=nr rfl
@[simp ↓] theorem Zso {x0 x1 x2 x3 x4 x5 x6 x7 x8 x9 x10 x11 x12 x13 x14 x15 x16 x17 x18:Option (Bool×D)}{d:D}{l:PEnv}{P:D→Prop}{R:Prop}:ownI (x0 :: x1 :: x2 :: x3 :: x4 :: x5 :: x6 :: x7 :: x8 :: x9 :: x10 :: x11 :: x12 :: x13 :: x14 :: x15 :: x16 :: x17 :: x18 :: some (true,d) :: l) 19 P R=P d:=nr rfl
@[simp ↓] theorem Zr8 {x0 x1 x2 x3 x4 x5 x6 x7 x8 x9 x10 x11 x12 x13 x14 x15 x16 x17 x18:Option (Bool×D)}{d:D}{l:PEnv}{P:D→Prop}{R:Prop}:ownI (x0 :: x1 :: x2 :: x3 :: x4 :: x5 :: x6 :: x7 :: x8 :: x9 :: x10 :: x11 :: x12 :: x13 :: x14 :: x15 :: x16 :: x17 :: x18 :: some (false,d) :: l) 19 P R=R:=nr rfl
@[simp ↓] theorem ZtD {x0 x1 x2 x3 x4 x5 x6 x7 x8 x9 x10 x11 x12 x13 x14 x15 x16 x17 x18 x19:Option (Bool×D)}{y o:Option (Bool×D)}{l:PEnv}{Q:PEnv→Prop}:letS (x0 :: x1 :: x2 :: x3 :: x4 :: x5 :: x6 :: x7 :: x8 :: x9 :: x10 :: x11 :: x12 :: x13 :: x14 :: x15 :: x16 :: x17 :: x18 :: x19 :: y :: l) 20 o Q=Q (x0 :: x1 :: x2 :: x3 :: x4 :: x5 :: x6 :: x7 :: x8 :: x9 :: x10 :: x11 :: x12 :: x13 :: x14 :: x15 :: x16 :: x17 :: x18 :: x19 :: o :: l):=nr rfl
@[simp ↓] theorem Zv5 {x0 x1 x2 x3 x4 x5 x6 x7 x8 x9 x10 x11 x12 x13 x14 x15 x16 x17 x18 x19:Option (Bool×D)}{d:D}{l:PEnv}{md:Md}{Q:D→Prop}:lkI (x0 :: x1 :: x2 :: x3 :: x4 :: x5 :: x6 :: x7 :: x8 :: x9 :: x10 :: x11 :: x12 :: x13 :: x14 :: x15 :: x16 :: x17 :: x18 :: x19 :: some (false,d) :: l) 20 md Q=Q d:=nr rfl
@[simp ↓] theorem ZtT {x0 x1 x2 x3 x4 x5 x6 x7 x8 x9 x10 x11 x12 x13 x14 x15 x16 x17 x18 x19:Option (Bool×D)}{d:D}{l:PEnv}{Q:D→Prop}:lkI (x0 :: x1 :: x2 :: x3 :: x4 :: x5 :: x6 :: x7 :: x8 :: x9 :: x10 :: x11 :: x12 :: x13 :: x14 :: x15 :: x16 :: x17 :: x18 :: x19 :: some (true,d) :: l) 20 .op Q=Q d:=nr rfl
@[simp ↓] theorem Zt9 {x0 x1 x2 x3 x4 x5 x6 x7 x8 x9 x10 x11 x12 x13 x14 x15 x16 x17 x18 x19:Option (Bool×D)}{d:D}{l:PEnv}{Q:D→Prop}:lkI (x0 :: x1 :: x2 :: x3 :: x4 :: x5 :: x6 :: x7 :: x8 :: x9 :: x10 :: x11 :: x12 :: x13 :: x14 :: x15 :: x16 :: x17 :: x18 :: x19 :: some (true,d) :: l) 20 .pu Q=(d.pure=true∧Q d):=nr rfl
@[simp ↓] theorem Zsp {x0 x1 x2 x3 x4 x5 x6 x7 x8 x9 x10 x11 x12 x13 x14 x15 x16 x17 x18 x19:Option (Bool×D)}{d:D}{l:PEnv}{P:D→Prop}{R:Prop}:ownI (x0 :: x1 :: x2 :: x3 :: x4 :: x5 :: x6 :: x7 :: x8 :: x9 :: x10 :: x11 :: x12 :: x13 :: x14 :: x15 :: x16 :: x17 :: x18 :: x19 :: some (true,d) :: l) 20 P R=P d:=nr rfl
@[simp ↓] theorem Zr9 {x0 x1 x2 x3 x4 x5 x6 x7 x8 x9 x10 x11 x12 x13 x14 x15 x16 x17 x18 x19:Option (Bool×D)}{d:D}{l:PEnv}{P:D→Prop}{R:Prop}:ownI (x0 :: x1 :: x2 :: x3 :: x4 :: x5 :: x6 :: x7 :: x8 :: x9 :: x10 :: x11 :: x12 :: x13 :: x14 :: x15 :: x16 :: x17 :: x18 :: x19 :: some (false,d) :: l) 20 P R=R:=nr rfl
@[simp ↓] theorem ZtE {x0 x1 x2 x3 x4 x5 x6 x7 x8 x9 x10 x11 x12 x13 x14 x15 x16 x17 x18 x19 x20:Option (Bool×D)}{y o:Option (Bool×D)}{l:PEnv}{Q:PEnv→Prop}:letS (x0 :: x1 :: x2 :: x3 :: x4 :: x5 :: x6 :: x7 :: x8 :: x9 :: x10 :: x11 :: x12 :: x13 :: x14 :: x15 :: x16 :: x17 :: x18 :: x19 :: x20 :: y :: l) 21 o Q=Q (x0 :: x1 :: x2 :: x3 :: x4 :: x5 :: x6 :: x7 :: x8 :: x9 :: x10 :: x11 :: x12 :: x13 :: x14 :: x15 :: x16 :: x17 :: x18 :: x19 :: x20 :: o :: l):=nr rfl
@[simp ↓] theorem Zv6 {x0 x1 x2 x3 x4 x5 x6 x7 x8 x9 x10 x11 x12 x13 x14 x15 x16 x17 x18 x19 x20:Option (Bool×D)}{d:D}{l:PEnv}{md:Md}{Q:D→Prop}:lkI (x0 :: x1 :: x2 :: x3 :: x4 :: x5 :: x6 :: x7 :: x8 :: x9 :: x10 :: x11 :: x12 :: x13 :: x14 :: x15 :: x16 :: x17 :: x18 :: x19 :: x20 :: some (false,d) :: l) 21 md Q=Q d:=nr rfl
@[simp ↓] theorem ZtU {x0 x1 x2 x3 x4 x5 x6 x7 x8 x9 x10 x11 x12 x13 x14 x15 x16 x17 x18 x19 x20:Option (Bool×D)}{d:D}{l:PEnv}{Q:D→Prop}:lkI (x0 :: x1 :: x2 :: x3 :: x4 :: x5 :: x6 :: x7 :: x8 :: x9 :: x10 :: x11 :: x12 :: x13 :: x14 :: x15 :: x16 :: x17 :: x18 :: x19 :: x20 :: some (true,d) :: l) 21 .op Q=Q d:=nr rfl
@[simp ↓] theorem Zua {x0 x1 x2 x3 x4 x5 x6 x7 x8 x9 x10 x11 x12 x13 x14 x15 x16 x17 x18 x19 x20:Option (Bool×D)}{d:D}{l:PEnv}{Q:D→Prop}:lkI (x0 :: x1 :: x2 :: x3 :: x4 :: x5 :: x6 :: x7 :: x8 :: x9 :: x10 :: x11 :: x12 :: x13 :: x14 :: x15 :: x16 :: x17 :: x18 :: x19 :: x20 :: some (true,d) :: l) 21 .pu Q=(d.pure=true∧Q d):=nr rfl
@[simp ↓] theorem Zsq {x0 x1 x2 x3 x4 x5 x6 x7 x8 x9 x10 x11 x12 x13 x14 x15 x16 x17 x18 x19 x20:Option (Bool×D)}{d:D}{l:PEnv}{P:D→Prop}{R:Prop}:ownI (x0 :: x1 :: x2 :: x3 :: x4 :: x5 :: x6 :: x7 :: x8 :: x9 :: x10 :: x11 :: x12 :: x13 :: x14 :: x15 :: x16 :: x17 :: x18 :: x19 :: x20 :: some (true,d) :: l) 21 P R=P d:=nr rfl
@[simp ↓] theorem Zsa {x0 x1 x2 x3 x4 x5 x6 x7 x8 x9 x10 x11 x12 x13 x14 x15 x16 x17 x18 x19 x20:Option (Bool×D)}{d:D}{l:PEnv}{P:D→Prop}{R:Prop}:ownI (x0 :: x1 :: x2 :: x3 :: x4 :: x5 :: x6 :: x7 :: x8 :: x9 :: x10 :: x11 :: x12 :: x13 :: x14 :: x15 :: x16 :: x17 :: x18 :: x19 :: x20 :: some (false,d) :: l) 21 P R=R:=nr rfl
@[simp ↓] theorem ZtF {x0 x1 x2 x3 x4 x5 x6 x7 x8 x9 x10 x11 x12 x13 x14 x15 x16 x17 x18 x19 x20 x21:Option (Bool×D)}{y o:Option (Bool×D)}{l:PEnv}{Q:PEnv→Prop}:letS (x0 :: x1 :: x2 :: x3 :: x4 :: x5 :: x6 :: x7 :: x8 :: x9 :: x10 :: x11 :: x12 :: x13 :: x14 :: x15 :: x16 :: x17 :: x18 :: x19 :: x20 :: x21 :: y :: l) 22 o Q=Q (x0 :: x1 :: x2 :: x3 :: x4 :: x5 :: x6 :: x7 :: x8 :: x9 :: x10 :: x11 :: x12 :: x13 :: x14 :: x15 :: x16 :: x17 :: x18 :: x19 :: x20 :: x21 :: o :: l):=nr rfl
@[simp ↓] theorem Zv7 {x0 x1 x2 x3 x4 x5 x6 x7 x8 x9 x10 x11 x12 x13 x14 x15 x16 x17 x18 x19 x20 x21:Option (Bool×D)}{d:D}{l:PEnv}{md:Md}{Q:D→Prop}:lkI (x0 :: x1 :: x2 :: x3 :: x4 :: x5 :: x6 :: x7 :: x8 :: x9 :: x10 :: x11 :: x12 :: x13 :: x14 :: x15 :: x16 :: x17 :: x18 :: x19 :: x20 :: x21 :: some (false,d) :: l) 22 md Q=Q d:=nr rfl
@[simp ↓] theorem ZtV {x0 x1 x2 x3 x4 x5 x6 x7 x8 x9 x10 x11 x12 x13 x14 x15 x16 x17 x18 x19 x20 x21:Option (Bool×D)}{d:D}{l:PEnv}{Q:D→Prop}:lkI (x0 :: x1 :: x2 :: x3 :: x4 :: x5 :: x6 :: x7 :: x8 :: x9 :: x10 :: x11 :: x12 :: x13 :: x14 :: x15 :: x16 :: x17 :: x18 :: x19 :: x20 :: x21 :: some (true,d) :: l) 22 .op Q=Q d:=nr rfl
@[simp ↓] theorem Zub {x0 x1 x2 x3 x4 x5 x6 x7 x8 x9 x10 x11 x12 x13 x14 x15 x16 x17 x18 x19 x20 x21:Option (Bool×D)}{d:D}{l:PEnv}{Q:D→Prop}:lkI (x0 :: x1 :: x2 :: x3 :: x4 :: x5 :: x6 :: x7 :: x8 :: x9 :: x10 :: x11 :: x12 :: x13 :: x14 :: x15 :: x16 :: x17 :: x18 :: x19 :: x20 :: x21 :: some (true,d) :: l) 22 .pu Q=(d.pure=true∧Q d):=nr rfl
@[simp ↓] theorem Zsr {x0 x1 x2 x3 x4 x5 x6 x7 x8 x9 x10 x11 x12 x13 x14 x15 x16 x17 x18 x19 x20 x21:Option (Bool×D)}{d:D}{l:PEnv}{P:D→Prop}{R:Prop}:ownI (x0 :: x1 :: x2 :: x3 :: x4 :: x5 :: x6 :: x7 :: x8 :: x9 :: x10 :: x11 :: x12 :: x13 :: x14 :: x15 :: x16 :: x17 :: x18 :: x19 :: x20 :: x21 :: some (true,d) :: l) 22 P R=P d:=nr rfl
@[simp ↓] theorem Zsb {x0 x1 x2 x3 x4 x5 x6 x7 x8 x9 x10 x11 x12 x13 x14 x15 x16 x17 x18 x19 x20 x21:Option (Bool×D)}{d:D}{l:PEnv}{P:D→Prop}{R:Prop}:ownI (x0 :: x1 :: x2 :: x3 :: x4 :: x5 :: x6 :: x7 :: x8 :: x9 :: x10 :: x11 :: x12 :: x13 :: x14 :: x15 :: x16 :: x17 :: x18 :: x19 :: x20 :: x21 :: some (false,d) :: l) 22 P R=R:=nr rfl
@[simp ↓] theorem ZtG {x0 x1 x2 x3 x4 x5 x6 x7 x8 x9 x10 x11 x12 x13 x14 x15 x16 x17 x18 x19 x20 x21 x22:Option (Bool×D)}{y o:Option (Bool×D)}{l:PEnv}{Q:PEnv→Prop}:letS (x0 :: x1 :: x2 :: x3 :: x4 :: x5 :: x6 :: x7 :: x8 :: x9 :: x10 :: x11 :: x12 :: x13 :: x14 :: x15 :: x16 :: x17 :: x18 :: x19 :: x20 :: x21 :: x22 :: y :: l) 23 o Q=Q (x0 :: x1 :: x2 :: x3 :: x4 :: x5 :: x6 :: x7 :: x8 :: x9 :: x10 :: x11 :: x12 :: x13 :: x14 :: x15 :: x16 :: x17 :: x18 :: x19 :: x20 :: x21 :: x22 :: o :: l):=nr rfl
@[simp ↓] theorem Zv8 {x0 x1 x2 x3 x4 x5 x6 x7 x8 x9 x10 x11 x12 x13 x14 x15 x16 x17 x18 x19 x20 x21 x22:Option (Bool×D)}{d:D}{l:PEnv}{md:Md}{Q:D→Prop}:lkI (x0 :: x1 :: x2 :: x3 :: x4 :: x5 :: x6 :: x7 :: x8 :: x9 :: x10 :: x11 :: x12 :: x13 :: x14 :: x15 :: x16 :: x17 :: x18 :: x19 :: x20 :: x21 :: x22 :: some (false,d) :: l) 23 md Q=Q d:=nr rfl
@[simp ↓] theorem ZtW {x0 x1 x2 x3 x4 x5 x6 x7 x8 x9 x10 x11 x12 x13 x14 x15 x16 x17 x18 x19 x20 x21 x22:Option (Bool×D)}{d:D}{l:PEnv}{Q:D→Prop}:lkI (x0 :: x1 :: x2 :: x3 :: x4 :: x5 :: x6 :: x7 :: x8 :: x9 :: x10 :: x11 :: x12 :: x13 :: x14 :: x15 :: x16 :: x17 :: x18 :: x19 :: x20 :: x21 :: x22 :: some (true,d) :: l) 23 .op Q=Q d:=nr rfl
@[simp ↓] theorem Zuc {x0 x1 x2 x3 x4 x5 x6 x7 x8 x9 x10 x11 x12 x13 x14 x15 x16 x17 x18 x19 x20 x21 x22:Option (Bool×D)}{d:D}{l:PEnv}{Q:D→Prop}:lkI (x0 :: x1 :: x2 :: x3 :: x4 :: x5 :: x6 :: x7 :: x8 :: x9 :: x10 :: x11 :: x12 :: x13 :: x14 :: x15 :: x16 :: x17 :: x18 :: x19 :: x20 :: x21 :: x22 :: some (true,d) :: l) 23 .pu Q=(d.pure=true∧Q d):=nr rfl
@[simp ↓] theorem Zss {x0 x1 x2 x3 x4 x5 x6 x7 x8 x9 x10 x11 x12 x13 x14 x15 x16 x17 x18 x19 x20 x21 x22:Option (Bool×D)}{d:D}{l:PEnv}{P:D→Prop}{R:Prop}:ownI (x0 :: x1 :: x2 :: x3 :: x4 :: x5 :: x6 :: x7 :: x8 :: x9 :: x10 :: x11 :: x12 :: x13 :: x14 :: x15 :: x16 :: x17 :: x18 :: x19 :: x20 :: x21 :: x22 :: some (true,d) :: l) 23 P R=P d:=nr rfl
@[simp ↓] theorem Zsc {x0 x1 x2 x3 x4 x5 x6 x7 x8 x9 x10 x11 x12 x13 x14 x15 x16 x17 x18 x19 x20 x21 x22:Option (Bool×D)}{d:D}{l:PEnv}{P:D→Prop}{R:Prop}:ownI (x0 :: x1 :: x2 :: x3 :: x4 :: x5 :: x6 :: x7 :: x8 :: x9 :: x10 :: x11 :: x12 :: x13 :: x14 :: x15 :: x16 :: x17 :: x18 :: x19 :: x20 :: x21 :: x22 :: some (false,d) :: l) 23 P R=R:=nr rfl
@[simp ↓] theorem ZtH {x0 x1 x2 x3 x4 x5 x6 x7 x8 x9 x10 x11 x12 x13 x14 x15 x16 x17 x18 x19 x20 x21 x22 x23:Option (Bool×D)}{y o:Option (Bool×D)}{l:PEnv}{Q:PEnv→Prop}:letS (x0 :: x1 :: x2 :: x3 :: x4 :: x5 :: x6 :: x7 :: x8 :: x9 :: x10 :: x11 :: x12 :: x13 :: x14 :: x15 :: x16 :: x17 :: x18 :: x19 :: x20 :: x21 :: x22 :: x23 :: y :: l) 24 o Q=Q (x0 :: x1 :: x2 :: x3 :: x4 :: x5 :: x6 :: x7 :: x8 :: x9 :: x10 :: x11 :: x12 :: x13 :: x14 :: x15 :: x16 :: x17 :: x18 :: x19 :: x20 :: x21 :: x22 :: x23 :: o :: l):=nr rfl
@[simp ↓] theorem Zv9 {x0 x1 x2 x3 x4 x5 x6 x7 x8 x9 x10 x11 x12 x13 x14 x15 x16 x17 x18 x19 x20 x21 x22 x23:Option (Bool×D)}{d:D}{l:PEnv}{md:Md}{Q:D→Prop}:lkI (x0 :: x1 :: x2 :: x3 :: x4 :: x5 :: x6 :: x7 :: x8 :: x9 :: x10 :: x11 :: x12 :: x13 :: x14 :: x15 :: x16 :: x17 :: x18 :: x19 :: x20 :: x21 :: x22 :: x23 :: some (false,d) :: l) 24 md Q=Q d:=nr rfl
@[simp ↓] theorem ZtX {x0 x1 x2 x3 x4 x5 x6 x7 x8 x9 x10 x11 x12 x13 x14 x15 x16 x17 x18 x19 x20 x21 x22 x23:Option (Bool×D)}{d:D}{l:PEnv}{Q:D→Prop}:lkI (x0 :: x1 :: x2 :: x3 :: x4 :: x5 :: x6 :: x7 :: x8 :: x9 :: x10 :: x11 :: x12 :: x13 :: x14 :: x15 :: x16 :: x17 :: x18 :: x19 :: x20 :: x21 :: x22 :: x23 :: some (true,d) :: l) 24 .op Q=Q d:=nr rfl
@[simp ↓] theorem Zud {x0 x1 x2 x3 x4 x5 x6 x7 x8 x9 x10 x11 x12 x13 x14 x15 x16 x17 x18 x19 x20 x21 x22 x23:Option (Bool×D)}{d:D}{l:PEnv}{Q:D→Prop}:lkI (x0 :: x1 :: x2 :: x3 :: x4 :: x5 :: x6 :: x7 :: x8 :: x9 :: x10 :: x11 :: x12 :: x13 :: x14 :: x15 :: x16 :: x17 :: x18 :: x19 :: x20 :: x21 :: x22 :: x23 :: some (true,d) :: l) 24 .pu Q=(d.pure=true∧Q d):=nr rfl
@[simp ↓] theorem Zst {x0 x1 x2 x3 x4 x5 x6 x7 x8 x9 x10 x11 x12 x13 x14 x15 x16 x17 x18 x19 x20 x21 x22 x23:Option (Bool×D)}{d:D}{l:PEnv}{P:D→Prop}{R:Prop}:ownI (x0 :: x1 :: x2 :: x3 :: x4 :: x5 :: x6 :: x7 :: x8 :: x9 :: x10 :: x11 :: x12 :: x13 :: x14 :: x15 :: x16 :: x17 :: x18 :: x19 :: x20 :: x21 :: x22 :: x23 :: some (true,d) :: l) 24 P R=P d:=nr rfl
@[simp ↓] theorem Zsd {x0 x1 x2 x3 x4 x5 x6 x7 x8 x9 x10 x11 x12 x13 x14 x15 x16 x17 x18 x19 x20 x21 x22 x23:Option (Bool×D)}{d:D}{l:PEnv}{P:D→Prop}{R:Prop}:ownI (x0 :: x1 :: x2 :: x3 :: x4 :: x5 :: x6 :: x7 :: x8 :: x9 :: x10 :: x11 :: x12 :: x13 :: x14 :: x15 :: x16 :: x17 :: x18 :: x19 :: x20 :: x21 :: x22 :: x23 :: some (false,d) :: l) 24 P R=R:=nr rfl
@[simp ↓] theorem ZtI {x0 x1 x2 x3 x4 x5 x6 x7 x8 x9 x10 x11 x12 x13 x14 x15 x16 x17 x18 x19 x20 x21 x22 x23 x24:Option (Bool×D)}{y o:Option (Bool×D)}{l:PEnv}{Q:PEnv→Prop}:letS (x0 :: x1 :: x2 :: x3 :: x4 :: x5 :: x6 :: x7 :: x8 :: x9 :: x10 :: x11 :: x12 :: x13 :: x14 :: x15 :: x16 :: x17 :: x18 :: x19 :: x20 :: x21 :: x22 :: x23 :: x24 :: y :: l) 25 o Q=Q (x0 :: x1 :: x2 :: x3 :: x4 :: x5 :: x6 :: x7 :: x8 :: x9 :: x10 :: x11 :: x12 :: x13 :: x14 :: x15 :: x16 :: x17 :: x18 :: x19 :: x20 :: x21 :: x22 :: x23 :: x24 :: o :: l):=nr rfl
@[simp ↓] theorem Zwa {x0 x1 x2 x3 x4 x5 x6 x7 x8 x9 x10 x11 x12 x13 x14 x15 x16 x17 x18 x19 x20 x21 x22 x23 x24:Option (Bool×D)}{d:D}{l:PEnv}{md:Md}{Q:D→Prop}:lkI (x0 :: x1 :: x2 :: x3 :: x4 :: x5 :: x6 :: x7 :: x8 :: x9 :: x10 :: x11 :: x12 :: x13 :: x14 :: x15 :: x16 :: x17 :: x18 :: x19 :: x20 :: x21 :: x22 :: x23 :: x24 :: some (false,d) :: l) 25 md Q=Q d:=nr rfl
@[simp ↓] theorem ZtY {x0 x1 x2 x3 x4 x5 x6 x7 x8 x9 x10 x11 x12 x13 x14 x15 x16 x17 x18 x19 x20 x21 x22 x23 x24:Option (Bool×D)}{d:D}{l:PEnv}{Q:D→Prop}:lkI (x0 :: x1 :: x2 :: x3 :: x4 :: x5 :: x6 :: x7 :: x8 :: x9 :: x10 :: x11 :: x12 :: x13 :: x14 :: x15 :: x16 :: x17 :: x18 :: x19 :: x20 :: x21 :: x22 :: x23 :: x24 :: some (true,d) :: l) 25 .op Q=Q d:=nr rfl
@[simp ↓] theorem Zue {x0 x1 x2 x3 x4 x5 x6 x7 x8 x9 x10 x11 x12 x13 x14 x15 x16 x17 x18 x19 x20 x21 x22 x23 x24:Option (Bool×D)}{d:D}{l:PEnv}{Q:D→Prop}:lkI (x0 :: x1 :: x2 :: x3 :: x4 :: x5 :: x6 :: x7 :: x8 :: x9 :: x10 :: x11 :: x12 :: x13 :: x14 :: x15 :: x16 :: x17 :: x18 :: x19 :: x20 :: x21 :: x22 :: x23 :: x24 :: some (true,d) :: l) 25 .pu Q=(d.pure=true∧Q d):=nr rfl
@[simp ↓] theorem Zsu {x0 x1 x2 x3 x4 x5 x6 x7 x8 x9 x10 x11 x12 x13 x14 x15 x16 x17 x18 x19 x20 x21 x22 x23 x24:Option (Bool×D)}{d:D}{l:PEnv}{P:D→Prop}{R:Prop}:ownI (x0 :: x1 :: x2 :: x3 :: x4 :: x5 :: x6 :: x7 :: x8 :: x9 :: x10 :: x11 :: x12 :: x13 :: x14 :: x15 :: x16 :: x17 :: x18 :: x19 :: x20 :: x21 :: x22 :: x23 :: x24 :: some (true,d) :: l) 25 P R=P d:=nr rfl
@[simp ↓] theorem Zse {x0 x1 x2 x3 x4 x5 x6 x7 x8 x9 x10 x11 x12 x13 x14 x15 x16 x17 x18 x19 x20 x21 x22 x23 x24:Option (Bool×D)}{d:D}{l:PEnv}{P:D→Prop}{R:Prop}:ownI (x0 :: x1 :: x2 :: x3 :: x4 :: x5 :: x6 :: x7 :: x8 :: x9 :: x10 :: x11 :: x12 :: x13 :: x14 :: x15 :: x16 :: x17 :: x18 :: x19 :: x20 :: x21 :: x22 :: x23 :: x24 :: some (false,d) :: l) 25 P R=R:=nr rfl
def ZjS (G:Cfg)(C:CT)(lin:List Nat)(r:Cs)(E:Xc):PEnv→W→Prop:=fun ρ w=>xCs G C lin r E ρ w
@[simp ↓] theorem Zrt {G:Cfg}{C:CT}{lin:List Nat}{r:Cs}{E:Xc}{ρ:PEnv}{w:W}:ZjS G C lin r E ρ w=xCs G C lin r E ρ w:=nr rfl
def Zkb (G:Cfg)(C:CT)(lin:List Nat)(tg:Tg)(body:Cs)(rt:QW):D→PEnv→W→(PEnv→W→Prop)→Prop:=fun d ρ w N=>optE (setV tg d ρ) fun ρ'=>xCs G C lin body { nx:=N,rt:=rt } ρ' w
@[simp ↓] theorem ZsG {G:Cfg}{C:CT}{lin:List Nat}{tg:Tg}{body:Cs}{rt:QW}{d:D}{ρ:PEnv}{w:W}{N:PEnv→W→Prop}:Zkb G C lin tg body rt d ρ w N=optE (setV tg d ρ) fun ρ'=>xCs G C lin body { nx:=N,rt:=rt } ρ' w:=nr rfl
section
variable {G:Cfg}{C:CT}{lin:List Nat}{md:Md}{ρ:PEnv}{w:W}{Q:QW}{QL:List D→W→Prop}{QI:List Int→W→Prop}{QB:Bool→W→Prop}{E:Xc}{d x:D}{ds:List D}{i j:Nat}{a b c e:M}{as cs:Ms}{f y:Str}{o o':Operator}{p p':CmpOp}{no k lo hi:Bool}{t:Ty}{g:Bi}{s:Src}{own:List Nat}{tg tr:Tg}{m:Mu}{st:Sw.C}{u v body:Cs}
@[simp ↓] theorem xE_v:xE G C md (.v i) ρ w Q=lkI ρ i md (fun d=>Q d w):=by rw[xE];rfl
@[simp ↓] theorem xE_k:xE G C md (.k d) ρ w Q=Q d w:=by rw[xE]
@[simp ↓] theorem xE_g:xE G C md (.g y) ρ w Q=optD (G.gl y) fun d=>Q d w:=by rw[xE]
@[simp ↓] theorem Zxh:xE G C md (.bin o a b) ρ w Q=xE G C .op a ρ w fun x w1=>xE G C .op b ρ w1 fun y w2=>optD (binD o w2.S x y) fun z=>Q z w2:=by rw[xE]
@[simp ↓] theorem Zxp:xE G C md (.neg a) ρ w Q=xE G C .ex a ρ w fun x w1=>intD x fun i=>Q (.int (-i)) w1:=by rw[xE]
@[simp ↓] theorem Zxi:xE G C md (.cmp p a b) ρ w Q=xE G C (YN p).1 a ρ w fun x w1=>xE G C (YN p).2 b ρ w1 fun y w2=>optB (cmpB p w2.S x y) fun z=>Q (.bl z) w2:=by rw[xE]
@[simp ↓] theorem ZsO:xE G C md (.chain p p' a b c) ρ w Q=xE G C .ex a ρ w fun x w1=>xE G C .ex b ρ w1 fun y w2=>optB (cmpB p w2.S x y) fun z=>
   if z=true then xE G C .ex c ρ w2 fun u w3=>optB (cmpB p' w3.S y u) fun z'=>Q (.bl z') w3 else Q (.bl false) w2:=by rw[xE]
@[simp ↓] theorem Zxm:xE G C md (.isn no a) ρ w Q=xE G C .op a ρ w fun x w1=>Q (.bl (no != isNon x)) w1:=by rw[xE]
@[simp ↓] theorem Zxl:xE G C md (.isb no k a) ρ w Q=xE G C .ex a ρ w fun x w1=>match x with | .bl b'=>Q (.bl (no != (b' == k))) w1 | _=>False:=by rw[xE] <;> rfl
@[simp ↓] theorem Zxg:xE G C md (.and a b) ρ w Q=xE G C md a ρ w fun x w1=>optB (truD w1.S x) fun t=>if t=true then xE G C md b ρ w1 Q else Q x w1:=by rw[xE]
@[simp ↓] theorem Zyw:xE G C md (.or a b) ρ w Q=xE G C md a ρ w fun x w1=>optB (truD w1.S x) fun t=>if t=true then Q x w1 else xE G C md b ρ w1 Q:=by rw[xE]
@[simp ↓] theorem Zxq:xE G C md (.not a) ρ w Q=xE G C .op a ρ w fun x w1=>optB (truD w1.S x) fun t=>Q (.bl (!t)) w1:=by rw[xE]
@[simp ↓] theorem Zxn:xE G C md (.ite c a b) ρ w Q=xE G C .op c ρ w fun x w1=>optB (truD w1.S x) fun t=>if t=true then xE G C md a ρ w1 Q else xE G C md b ρ w1 Q:=by rw[xE]
@[simp ↓] theorem Zxu:xE G C md (.tup as) ρ w Q=xEs G C .ex as ρ w fun ds w1=>ds.length≤sizeLine∧Q (.tup ds) w1:=by rw[xE]
@[simp ↓] theorem Zxo:xE G C md (.lst as) ρ w Q=xEs G C .ex as ρ w fun ds w1=>ds.length≤sizeLine∧Q (.lst ds) w1:=by rw[xE]
@[simp ↓] theorem Zxj {ks:List Str}:xE G C md (.dct ks as) ρ w Q=xEs G C .ex as ρ w fun ds w1=>Q (.dic (ks.map Sum.inr) ds) w1:=by rw[xE]
@[simp ↓] theorem Zxk:xE G C md (.isa t a) ρ w Q=xE G C .op a ρ w fun x w1=>optB (isaD t w1.S x) fun b=>Q (.bl b) w1:=by rw[xE]
@[simp ↓] theorem Zyt:xE G C md (.bi g as) ρ w Q=xEs G C (biMd g) as ρ w fun ds w1=>optD (biD g w1.S ds) fun z=>Q z w1:=by rw[xE]
@[simp ↓] theorem Zyu:xE G C md (.ix a b) ρ w Q=xE G C .op a ρ w fun x w1=>xE G C .ex b ρ w1 fun y w2=>optD (ixOf w2.S x y) fun z=>Q z w2:=by rw[xE]
@[simp ↓] theorem Zvu:xE G C md (.sl false false a .nil) ρ w Q=xE G C .op a ρ w fun x w1=>optD (slOf w1.S x none none) fun z=>Q z w1:=by rw[xE];simp only[xIs]
@[simp ↓] theorem Zvw:xE G C md (.sl true false a (.cons b .nil)) ρ w Q=xE G C .op a ρ w fun x w1=>xE G C .ex b ρ w1 fun y w2=>intD y fun l=>optD (slOf w2.S x (some l) none) fun z=>Q z w2:=by rw[xE];simp only[xIs]
@[simp ↓] theorem Zvv:xE G C md (.sl false true a (.cons b .nil)) ρ w Q=xE G C .op a ρ w fun x w1=>xE G C .ex b ρ w1 fun y w2=>intD y fun l=>optD (slOf w2.S x none (some l)) fun z=>Q z w2:=by rw[xE];simp only[xIs]
@[simp ↓] theorem Zvx:xE G C md (.sl true true a (.cons b (.cons c .nil))) ρ w Q=xE G C .op a ρ w fun x w1=>xE G C .ex b ρ w1 fun y w2=>intD y fun l=>xE G C .ex c ρ w2 fun z w3=>intD z fun h=>optD (slOf w3.S x (some l) (some h)) fun z=>Q z w3:=by rw[xE];simp only[xIs]
@[simp ↓] theorem Zvp:xE G C md (.call f as) ρ w Q=xEs G C .ex as ρ w fun ds w1=>C "" f ds w1 Q:=by rw[xE]
@[simp ↓] theorem Zvq:xE G C md (.comp s as own tg cs e) ρ w Q=xEs G C (Vg s) as ρ w fun ds w1=>optL (srcD s w1.S ds) fun items=>
   if G.gc=true then Y8 (fun d w K=>stab s ds items w∧optE (setV tg d (Yt ρ own)) fun ρ'=>
     xTs G C cs ρ' w fun t w'=>if t=true then xE G C .ex e ρ' w' fun y w''=>K (some y) w'' else K none w') items [] w1 (fun acc w'=>stab s ds items w'∧Q (.lst acc) w')
   else XA (fun d b K=>optE (setV tg d (Yt ρ own)) fun ρ'=>
     xTs G C cs ρ' { w1 with b:=b } fun t w'=>if t=true then xE G C .ex e ρ' w' fun y w''=>WA w1 w''∧K (some y) w''.b else WA w1 w'∧K none w'.b) items [] w1.b (fun acc b=>Q (.lst acc) { w1 with b:=b }):=by rw[xE]
@[simp] theorem ZuP {w:W}{b:Nat}:WA w { w with b:=b }=True:=by unfold WA;simp
@[simp] theorem ZuQ {w:W}:WA w w=True:=by unfold WA;simp
@[simp ↓] theorem Zvt {me:Me}:xE G C md (.meth me a as) ρ w Q=xE G C .ex a ρ w fun x w1=>Y1 x=true∧xEs G C .op as ρ w1 fun ds w2=>optD (meD me w2.S x ds) fun z=>Q z w2:=by rw[xE]
@[simp ↓] theorem Zxs:xE G C md (.rev a) ρ w Q=xE G C .op a ρ w fun x w1=>optD (revD w1.S x) fun z=>Q z w1:=by rw[xE]
@[simp ↓] theorem Zvr {ts:List Ty}:xE G C md (.isat ts a) ρ w Q=xE G C .op a ρ w fun x w1=>optB (YW ts w1.S x) fun b=>Q (.bl b) w1:=by rw[xE]
@[simp ↓] theorem Zvs:xE G C md (.lset a) ρ w Q=xE G C .op a ρ w fun x w1=>optD (YO w1.S x) fun z=>Q z w1:=by rw[xE]
@[simp ↓] theorem Zvy:xE G C md (.sset a) ρ w Q=xE G C .op a ρ w fun x w1=>optD (YQ w1.S x) fun z=>Q z w1:=by rw[xE]
@[simp ↓] theorem Zys:xE G C md (.at a y) ρ w Q=xE G C .ex a ρ w fun x w1=>optI (insD w1.S x) fun c fs=>G.fl c y=true∧optD (fs.lookup y) fun z=>Q z w1:=by rw[xE]
@[simp ↓] theorem Zxt {ml:Ml}:xE G C md (.tel ml a as) ρ w Q=xE G C .op a ρ w fun x w1=>mlTy ml w1.S x=true∧xEs G C .ex as ρ w1 fun ds w2=>optD (mlD ml w2.S x ds) fun z=>Q z w2:=by rw[xE]
@[simp ↓] theorem ZsP:xE G C md (.mcall a y as) ρ w Q=xE G C .ex a ρ w fun x w1=>optI (insD w1.S x) fun c fs=>fs.lookup y=none∧G.me c y=true∧xEs G C .ex as ρ w1 fun ds w2=>C c y (x :: ds) w2 Q:=by rw[xE]
@[simp ↓] theorem Zyv:xE G C md (.mk y as) ρ w Q=xEs G C .ex as ρ w fun ds w1=>∀p,w1.S p=none→w1.pen≠some p→C y "__init__" (.obj p :: ds) { w1 with S:=sput w1.S p (.ins y []) } fun v w2=>v=.non∧Q (.obj p) w2:=by rw[xE]
theorem Zxr:xE G C md (.own a) ρ w Q=xE G C .ex a ρ w fun x w1=>match moV x with
   | some mo=>∀p,w1.S p=none→w1.pen≠some p→Q (.obj p) { w1 with S:=sput w1.S p mo }
   | none=>False:=by rw[xE] <;> rfl
@[simp ↓] theorem Zvz:xEs G C md .nil ρ w QL=QL [] w:=by rw[xEs]
@[simp ↓] theorem ZsQ:xEs G C md (.cons a as) ρ w QL=xE G C md a ρ w fun x w1=>xEs G C md as ρ w1 fun xs w2=>QL (x :: xs) w2:=by rw[xEs]
@[simp ↓] theorem ZvA:xTs G C .nil ρ w QB=QB true w:=by rw[xTs]
@[simp ↓] theorem ZvB:xTs G C (.cons a .nil) ρ w QB=xE G C .op a ρ w fun x w1=>optB (truD w1.S x) fun t=>QB t w1:=by rw[xTs]
@[simp ↓] theorem Zva {i:Nat}(h:i∈lin):xC G C lin (.asg (.nm i) (.own e)) E ρ w=xE G C .ex e ρ w fun x w1=>(moV x).isSome=true∧letS ρ i (some (true,x)) fun ρ=>E.nx ρ w1:=by
 rw[xC];exact if_pos h
@[simp ↓] theorem Zvc {i:Nat}(h:i∉lin):xC G C lin (.asg (.nm i) (.own e)) E ρ w=xE G C .ex (.own e) ρ w fun x w1=>letS ρ i (some (false,x)) fun ρ=>E.nx ρ w1:=by
 rw[xC];exact if_neg h
def Zz:M→Bool
 | .own _=>true
 | _=>false
@[simp] theorem ZrI {i_}:Zz (.v i_)=false:=nr rfl
@[simp] theorem ZrH {d_}:Zz (.k d_)=false:=nr rfl
@[simp] theorem ZrG {x_}:Zz (.g x_)=false:=nr rfl
@[simp] theorem Zo9 {o_}{a_}{b_}:Zz (.bin o_ a_ b_)=false:=nr rfl
@[simp] theorem Zpi {a_}:Zz (.neg a_)=false:=nr rfl
@[simp] theorem Zpa {o_}{a_}{b_}:Zz (.cmp o_ a_ b_)=false:=nr rfl
@[simp] theorem Zm1 {o_}{p_}{a_}{b_}{c_}:Zz (.chain o_ p_ a_ b_ c_)=false:=nr rfl
@[simp] theorem Zpf {n_}{a_}:Zz (.isn n_ a_)=false:=nr rfl
@[simp] theorem Zpe {n_}{b_}{a_}:Zz (.isb n_ b_ a_)=false:=nr rfl
@[simp] theorem Zo8 {a_}{b_}:Zz (.and a_ b_)=false:=nr rfl
@[simp] theorem ZqO {a_}{b_}:Zz (.or a_ b_)=false:=nr rfl
@[simp] theorem Zpj {a_}:Zz (.not a_)=false:=nr rfl
@[simp] theorem Zpg {c_}{a_}{b_}:Zz (.ite c_ a_ b_)=false:=nr rfl
@[simp] theorem Zpm {as_}:Zz (.tup as_)=false:=nr rfl
@[simp] theorem Zph {as_}:Zz (.lst as_)=false:=nr rfl
@[simp] theorem Zpb {ks_}{as_}:Zz (.dct ks_ as_)=false:=nr rfl
@[simp] theorem Zpd {t_}{a_}:Zz (.isa t_ a_)=false:=nr rfl
@[simp] theorem ZqL {f_}{as_}:Zz (.bi f_ as_)=false:=nr rfl
@[simp] theorem ZqM {a_}{i_}:Zz (.ix a_ i_)=false:=nr rfl
@[simp] theorem ZqP {l_}{h_}{a_}{as_}:Zz (.sl l_ h_ a_ as_)=false:=nr rfl
@[simp] theorem Zon {f_}{as_}:Zz (.call f_ as_)=false:=nr rfl
@[simp] theorem Zoo {s_}{as_}{own_}{tg_}{cs_}{el_}:Zz (.comp s_ as_ own_ tg_ cs_ el_)=false:=nr rfl
@[simp] theorem Zor {m_}{o_}{as_}:Zz (.meth m_ o_ as_)=false:=nr rfl
@[simp] theorem Zpc {a_}:Zz (.frz a_)=false:=nr rfl
@[simp] theorem Zpk {a_}:Zz (.rev a_)=false:=nr rfl
@[simp] theorem Zop {ts_}{a_}:Zz (.isat ts_ a_)=false:=nr rfl
@[simp] theorem Zoq {a_}:Zz (.lset a_)=false:=nr rfl
@[simp] theorem Zot {a_}:Zz (.sset a_)=false:=nr rfl
@[simp] theorem ZqK {a_}{f_}:Zz (.at a_ f_)=false:=nr rfl
@[simp] theorem Zpl {m_}{o_}{as_}:Zz (.tel m_ o_ as_)=false:=nr rfl
@[simp] theorem Zos {m_}{o_}{as_}:Zz (.mutv m_ o_ as_)=false:=nr rfl
@[simp] theorem Zm2 {o_}{m_}{as_}:Zz (.mcall o_ m_ as_)=false:=nr rfl
@[simp] theorem ZqN {c_}{as_}:Zz (.mk c_ as_)=false:=nr rfl
@[simp] theorem Zpn:Zz (.unr)=false:=nr rfl
@[simp ↓] theorem Zvb (h:Zz e=false):xC G C lin (.asg (.nm i) e) E ρ w=xE G C .ex e ρ w fun x w1=>letS ρ i (some (false,x)) fun ρ=>E.nx ρ w1:=by
 have key:(fun(x:D)(w1:W)=>optE (setV (.nm i) x ρ) fun ρ'=>E.nx ρ' w1)=fun x w1=>letS ρ i (some (false,x)) fun ρ=>E.nx ρ w1:=by
  funext x w1;rw[setV];rfl
 cases e <;> first | (cases h;done) | (rw[xC,key] <;> (intro _ _ h1 h2;cases h2))
@[simp ↓] theorem Zvd {tl:Tg}:xC G C lin (.asg (.tp tg tl) e) E ρ w=xE G C .ex e ρ w fun x w1=>optE (setV (.tp tg tl) x ρ) fun ρ'=>E.nx ρ' w1:=by
 cases e <;> (rw[xC] <;> first | rfl | (intro _ _ h1 h2;cases h1))
@[simp ↓] theorem Zxe:xC G C lin (.par i j a b) E ρ w=xE G C .ex a ρ w fun x w1=>xE G C .ex b ρ w1 fun y w2=>letS ρ i (some (false,x)) fun ρ=>letS ρ j (some (false,y)) fun ρ=>E.nx ρ w2:=by rw[xC];rfl
@[simp ↓] theorem Zve:xC G C lin (.aug i .Add e) E ρ w=lkI ρ i .ex fun x=>intD x fun x=>xE G C .ex e ρ w fun y w1=>intD y fun y=>letS ρ i (some (false,.int (x+y))) fun ρ=>E.nx ρ w1:=by rw[xC];rfl
@[simp ↓] theorem Zvf:xC G C lin (.aug i .Sub e) E ρ w=lkI ρ i .ex fun x=>intD x fun x=>xE G C .ex e ρ w fun y w1=>intD y fun y=>letS ρ i (some (false,.int (x - y))) fun ρ=>E.nx ρ w1:=by rw[xC];rfl
@[simp ↓] theorem Zvm {ix:M}:xC G C lin (.sub (.v j) ix e) E ρ w=xE G C .ex e ρ w fun x w1=>ownI ρ j
   (fun d=>xE G C .ex ix ρ w1 fun z w3=>optD (subL d z x) fun d'=>letS ρ j (some (true,d')) fun ρ=>E.nx ρ w3)
   (xE G C .ex (.v j) ρ w1 fun y w2=>xE G C .ex ix ρ w2 fun z w3=>optS (subD w3.S y z x) fun S4=>E.nx ρ { w3 with S:=S4 }):=by
 rw[xC]
 congr 1
 funext x w1
 rcases hq:ρ[j]? with _ | _ |⟨_ | _,d⟩ <;> simp only[ownAt,ownI,hq] <;> rfl
@[simp ↓] theorem Zvl {ix:M}:xC G C lin (.sub (.at a y) ix e) E ρ w=xE G C .ex e ρ w fun x w1=>xE G C .ex (.at a y) ρ w1 fun y w2=>xE G C .ex ix ρ w2 fun z w3=>optS (subD w3.S y z x) fun S4=>E.nx ρ { w3 with S:=S4 }:=by rw[xC];rfl
@[simp ↓] theorem Zxf:xC G C lin (.sat a y e) E ρ w=xE G C .ex e ρ w fun x w1=>xE G C .ex a ρ w1 fun z w2=>match satD w2.S z y x with | some (c,S3)=>G.fl c y=true∧E.nx ρ { w2 with S:=S3 } | none=>False:=by rw[xC] <;> rfl
@[simp ↓] theorem ZsM:xC G C lin (.dpop (.v j) a b) E ρ w=ownI ρ j
   (fun x=>(dicD w.S x).isSome=true∧xE G C .ex a ρ w fun y w2=>xE G C .ex b ρ w2 fun _ w3=>optD (ZaB x y) fun d'=>letS ρ j (some (true,d')) fun ρ=>E.nx ρ w3)
   (xE G C .ex (.v j) ρ w fun x w1=>(dicD w1.S x).isSome=true∧xE G C .ex a ρ w1 fun y w2=>xE G C .ex b ρ w2 fun _ w3=>optS (WN w3.S x y) fun S4=>E.nx ρ { w3 with S:=S4 }):=by
 rw[xC]
 rcases hq:ρ[j]? with _ | _ |⟨_ | _,d⟩ <;> simp only[ownAt,ownI,hq] <;> rfl
@[simp ↓] theorem Zxa:xC G C lin (.exp e) E ρ w=xE G C .ex e ρ w fun _ w1=>E.nx ρ w1:=by rw[xC]
@[simp ↓] theorem Zvg:xC G C lin (.mut m (.v j) as) E ρ w=ownI ρ j
   (fun d=>lstD d fun ds=>xEs G C (muMd m) as ρ w fun xs w1=>optM (muD m w1.S ds xs) fun ds'=>letS ρ j (some (true,.lst ds')) fun ρ=>E.nx ρ w1)
   (xE G C .ex (.v j) ρ w fun y w1=>∃a ds1,y=.obj a∧w1.S a=some (.lst ds1)∧xEs G C .ex as ρ w1 fun xs w2=>∃ds z ds',w2.S a=some (.lst ds)∧muD m w2.S ds xs=some (z,ds')∧E.nx ρ { w2 with S:=sput w2.S a (.lst ds') }):=by
 rw[xC]
 rcases hq:ρ[j]? with _ | _ |⟨_ | _,d⟩ <;> simp only[ownAt,ownI,hq] <;> rfl
@[simp ↓] theorem Zvk:xC G C lin .retN E ρ w=E.rt .non w:=by rw[xC]
@[simp ↓] theorem Zvh:xC G C lin .pass E ρ w=E.nx ρ w:=by rw[xC]
def ZG:M→Bool
 | .frz _=>true
 | _=>false
@[simp] theorem Ztj {i_}:ZG (.v i_)=false:=nr rfl
@[simp] theorem Zti {d_}:ZG (.k d_)=false:=nr rfl
@[simp] theorem Zth {x_}:ZG (.g x_)=false:=nr rfl
@[simp] theorem Zqi {o_}{a_}{b_}:ZG (.bin o_ a_ b_)=false:=nr rfl
@[simp] theorem Zqq {a_}:ZG (.neg a_)=false:=nr rfl
@[simp] theorem Zqj {o_}{a_}{b_}:ZG (.cmp o_ a_ b_)=false:=nr rfl
@[simp] theorem Zog {o_}{p_}{a_}{b_}{c_}:ZG (.chain o_ p_ a_ b_ c_)=false:=nr rfl
@[simp] theorem Zqn {n_}{a_}:ZG (.isn n_ a_)=false:=nr rfl
@[simp] theorem Zqm {n_}{b_}{a_}:ZG (.isb n_ b_ a_)=false:=nr rfl
@[simp] theorem Zqh {a_}{b_}:ZG (.and a_ b_)=false:=nr rfl
@[simp] theorem ZrC {a_}{b_}:ZG (.or a_ b_)=false:=nr rfl
@[simp] theorem Zqr {a_}:ZG (.not a_)=false:=nr rfl
@[simp] theorem Zqo {c_}{a_}{b_}:ZG (.ite c_ a_ b_)=false:=nr rfl
@[simp] theorem Zqv {as_}:ZG (.tup as_)=false:=nr rfl
@[simp] theorem Zqp {as_}:ZG (.lst as_)=false:=nr rfl
@[simp] theorem Zqk {ks_}{as_}:ZG (.dct ks_ as_)=false:=nr rfl
@[simp] theorem Zql {t_}{a_}:ZG (.isa t_ a_)=false:=nr rfl
@[simp] theorem Zrz {f_}{as_}:ZG (.bi f_ as_)=false:=nr rfl
@[simp] theorem ZrA {a_}{i_}:ZG (.ix a_ i_)=false:=nr rfl
@[simp] theorem ZrD {l_}{h_}{a_}{as_}:ZG (.sl l_ h_ a_ as_)=false:=nr rfl
@[simp] theorem ZoX {f_}{as_}:ZG (.call f_ as_)=false:=nr rfl
@[simp] theorem ZoY {s_}{as_}{own_}{tg_}{cs_}{el_}:ZG (.comp s_ as_ own_ tg_ cs_ el_)=false:=nr rfl
@[simp] theorem Zo1 {m_}{o_}{as_}:ZG (.meth m_ o_ as_)=false:=nr rfl
@[simp] theorem Zqs {a_}:ZG (.own a_)=false:=nr rfl
@[simp] theorem Zqt {a_}:ZG (.rev a_)=false:=nr rfl
@[simp] theorem ZoZ {ts_}{a_}:ZG (.isat ts_ a_)=false:=nr rfl
@[simp] theorem Zo0 {a_}:ZG (.lset a_)=false:=nr rfl
@[simp] theorem Zo3 {a_}:ZG (.sset a_)=false:=nr rfl
@[simp] theorem Zry {a_}{f_}:ZG (.at a_ f_)=false:=nr rfl
@[simp] theorem Zqu {m_}{o_}{as_}:ZG (.tel m_ o_ as_)=false:=nr rfl
@[simp] theorem Zo2 {m_}{o_}{as_}:ZG (.mutv m_ o_ as_)=false:=nr rfl
@[simp] theorem Zoh {o_}{m_}{as_}:ZG (.mcall o_ m_ as_)=false:=nr rfl
@[simp] theorem ZrB {c_}{as_}:ZG (.mk c_ as_)=false:=nr rfl
@[simp] theorem Zqw:ZG (.unr)=false:=nr rfl
@[simp ↓] theorem Zvi (h:ZG e=false):xC G C lin (.ret e) E ρ w=xE G C .ex e ρ w E.rt:=by
 rw[xC];cases e <;> first | (cases h;done) | rfl
@[simp ↓] theorem Zvj:xC G C lin (.ret (.frz (.v j))) E ρ w=ownI ρ j (fun d=>E.rt d w) (xE G C .ex (.frz (.v j)) ρ w E.rt):=by
 rw[xC]
 rcases hq:ρ[j]? with _ | _ |⟨_ | _,d⟩ <;> simp only[frzAt,ownI,hq] <;> rfl
@[simp ↓] theorem Zxd:xC G C lin (.ifs a u v) E ρ w=xE G C .op a ρ w fun x w1=>optB (truD w1.S x) fun t=>if t=true then xCs G C lin u E ρ w1 else xCs G C lin v E ρ w1:=by rw[xC]
@[simp ↓] theorem Zxb:xC G C lin (.for s as tg body) E ρ w=xEs G C .ex as ρ w fun ds w1=>optL (srcD s w1.S ds) fun items=>
   xFor (stab s ds items) (Zkb G C lin tg body E.rt) items ρ w1 E.nx:=by rw[xC];rfl
@[simp ↓] theorem Zvn {is:List Nat}:xC G C lin (.wipe is) E ρ w=letE (Yt ρ is) fun ρ=>E.nx ρ w:=by rw[xC];rfl
@[simp ↓] theorem Zxc:xC G C lin (.fre j) E ρ w=ownI ρ j (fun d=>letS ρ j (some (false,d)) fun ρ=>E.nx ρ w) False:=by
 rw[xC]
 rcases hq:ρ[j]? with _ | _ |⟨_ | _,d⟩ <;> simp only[ownI,hq] <;> rfl
@[simp ↓] theorem Zvo:xCs G C lin .nil E ρ w=E.nx ρ w:=by rw[xCs]
@[simp ↓] theorem ZsN:xCs G C lin (.cons st u) E ρ w=xC G C lin st { E with nx:=ZjS G C lin u E } ρ w:=by rw[xCs];rfl
@[simp] theorem ZuM:setV (.nm i) d ρ=some (ρ.set i (some (false,d))):=by rw[setV]
@[simp] theorem YS {tl:Tg}:setV (.tp tg tl) (.tup ds) ρ=ZJ (.tp tg tl) ds ρ:=by rw[setV]
@[simp] theorem ZsC {tl:Tg}:ZJ (.tp (.nm i) tl) (d :: ds) ρ=ZJ tl ds (ρ.set i (some (false,d))):=by rw[ZJ,setV]
theorem ZsD {tl:Tg}:ZJ (.tp tg tl) (d :: ds) ρ=(match setV tg d ρ with | some ρ'=>ZJ tl ds ρ' | none=>none):=by rw[ZJ] <;> rfl
@[simp] theorem Zq8 {a2 r2 tl:Tg}:ZJ (.tp (.tp a2 r2) tl) (d :: ds) ρ=(match setV (.tp a2 r2) d ρ with | some ρ'=>ZJ tl ds ρ' | none=>none):=by rw[ZJ] <;> rfl
@[simp] theorem Zq7:ZJ .nil [] ρ=some ρ:=by rw[ZJ]
@[simp] theorem Zrg:Yt ρ []=ρ:=nr rfl
@[simp] theorem Zp6 {r:List Nat}:Yt ρ (i :: r)=(Yt ρ r).set i none:=nr rfl
@[simp] theorem Zrd {n:Nat}:Y7 n ds=ds.map (fun d=>some (false,d))++List.replicate (n - ds.length) none:=nr rfl
@[simp] theorem ZqH:Zy .non=false:=nr rfl
@[simp] theorem ZrF:Zy (.bl k)=false:=nr rfl
@[simp] theorem ZqF {z:Int}:Zy (.int z)=false:=nr rfl
@[simp] theorem ZqI {z:Str}:Zy (.str z)=false:=nr rfl
@[simp] theorem ZqJ:Zy (.tup ds)=false:=nr rfl
@[simp] theorem ZqG:Zy (.lst ds)=false:=nr rfl
@[simp] theorem ZqC {ks:List L2.Key}:Zy (.dic ks ds)=false:=nr rfl
@[simp] theorem Zui:moV (.lst ds)=some (.lst ds):=nr rfl
@[simp] theorem Zrp:YN .In=(.pu,.op):=nr rfl
@[simp] theorem Zqa:YN .NotIn=(.pu,.op):=nr rfl
@[simp] theorem Zrm:YN .Eq=(.pu,.pu):=nr rfl
@[simp] theorem Zrs:YN .NotEq=(.pu,.pu):=nr rfl
@[simp] theorem Zrr:YN .Lt=(.ex,.ex):=nr rfl
@[simp] theorem Zrq:YN .LtE=(.ex,.ex):=nr rfl
@[simp] theorem Zro:YN .Gt=(.ex,.ex):=nr rfl
@[simp] theorem Zrn:YN .GtE=(.ex,.ex):=nr rfl
end
theorem ZlJ {s:Src}{ds its:List D}{w:W}(h:ds.any Zy=false):stab s ds its w=True:=by unfold stab;rw[h];exact if_neg (by decide)
@[simp] theorem ZwI {s:Src}{d:D}{its:List D}{w:W}:stab s [d] its w=(Zy d=true→srcD s w.S [d]=some its):=by
 unfold stab
 cases h:Zy d <;> simp[h]
@[simp] theorem ZwJ {s:Src}{d e:D}{its:List D}{w:W}(h:Zy d=false)(h2:Zy e=false):stab s [d,e] its w=True:=ZlJ (by simp[h,h2])
@[simp] theorem Zxy {w:W}{Q:QW}:fgQ false w Q=Q:=nr rfl
@[simp] theorem Zxz {w w':W}{Q:QW}{d:D}:fgQ true w Q d w'=(Ext w.S w'.S∧Q d { w' with S:=w.S }):=nr rfl
theorem ZoJ {T:Tab}{n:Nat}{f:Str}{ds:List D}{w:W}{Q:QW}{b:Bs}(h:T.bs f=some b)(hn:T.df "" f=none):cT T n "" f ds w Q=bsV b ds w Q:=by
 cases n with
 | zero=>rw[cT];dsimp only;rw[h];simp
 | succ n=>rw[cT];dsimp only;rw[hn,h];simp
def xMap {α:Type}(f:α→Nat→(Option D→Nat→Prop)→Prop):List α→List D→Nat→(List D→Nat→Prop)→Prop
 | [],acc,b,Q=>Q acc b
 | x :: r,acc,b,Q=>f x b fun o b'=>match o with
   | none=>xMap f r acc b' Q
   | some y=>acc.length<sizeLine∧xMap f r (acc++[y]) b' Q
section
variable {α β:Type}{b:Nat}{Q:List D→Nat→Prop}{acc:List D}
@[simp ↓] theorem Zch {step:D→Nat→(Option D→Nat→Prop)→Prop}(g:α→D):∀ {xs:List α} {acc:List D} {b:Nat},XA step (xs.map g) acc b Q=xMap (fun x=>step (g x)) xs acc b Q
 | [],acc,b=>rfl
 | x :: r,acc,b=>by
   rw[List.map_cons,XA,xMap]
   congr 1
   funext o b'
   cases o with
   | none=>exact Zch g
   | some y=>dsimp only;rw[Zch g]
@[simp ↓ 900] theorem Zcg {step:D→Nat→(Option D→Nat→Prop)→Prop}:∀ {xs:List D} {acc:List D} {b:Nat},XA step xs acc b Q=xMap step xs acc b Q
 | [],acc,b=>nr rfl
 | x :: r,acc,b=>by
   rw[XA,xMap]
   congr 1
   funext o b'
   cases o with
   | none=>exact Zcg
   | some y=>dsimp only;rw[Zcg]
theorem Qo {p:α→Prop}[inst:DecidablePred p]{h:α→D}:∀ {xs:List α} {acc:List D},acc.length≤sizeLine→xMap (fun x b K=>if p x then K (some (h x)) b else K none b) xs acc b Q=(acc.length+(xs.filter fun x=>decide (p x)).length≤sizeLine∧Q (acc++(xs.filter fun x=>decide (p x)).map h) b)
 | [],acc,hl=>by rw[xMap];simp[hl]
 | x :: r,acc,hl=>by
   rw[xMap]
   by_cases hp:p x
   · rw[if_pos hp,List.filter_cons,decide_eq_true hp,if_pos rfl]
     dsimp only
     by_cases hlt:acc.length<sizeLine
     · rw[Qo (by rw[List.length_append];exact hlt)]
       simp only[List.length_append,List.length_cons,List.length_nil,List.map_cons,List.append_assoc,List.cons_append,List.nil_append,hlt,true_and]
       have e:acc.length+(0+1)+(List.filter (fun x=>decide (p x)) r).length=acc.length+((List.filter (fun x=>decide (p x)) r).length+1):=by omega
       rw[e]
     · have:¬(acc.length+(x :: List.filter (fun x=>decide (p x)) r).length≤sizeLine):=by rw[List.length_cons];omega
       simp only[hlt,this,false_and]
   · rw[if_neg hp,List.filter_cons,decide_eq_false hp]
     dsimp only
     exact Qo hl
@[simp] theorem Zd8 {p:α→Prop}[inst:DecidablePred p]{h:α→D}{xs:List α}:xMap (fun x b K=>if p x then K (some (h x)) b else K none b) xs [] b Q=((xs.filter fun x=>decide (p x)).length≤sizeLine∧Q ((xs.filter fun x=>decide (p x)).map h) b):=by
 rw[Qo (Nat.zero_le _)]
 simp
@[simp] theorem ZsR {h:α→D}{xs:List α}:xMap (fun x b K=>K (some (h x)) b) xs [] b Q=(xs.length≤sizeLine∧Q (xs.map h) b):=by
 have:=Zd8 (p:=fun _:α=>True) (h:=h) (xs:=xs) (b:=b) (Q:=Q)
 simp only[if_true,decide_true] at this
 have e:xs.filter (fun _=>true)=xs:=List.filter_eq_self.mpr fun _ _=>rfl
 simpa [e] using this
end
section
variable {α:Type}{b:Nat}{Q:List D→Nat→Prop}
@[simp] theorem Zrh {p:α→Prop}[inst:DecidablePred p]{h:α→D}{xs:List α}:xMap (fun x b K=>if p x then K none b else K (some (h x)) b) xs [] b Q=((xs.filter fun x=>!decide (p x)).length≤sizeLine∧Q ((xs.filter fun x=>!decide (p x)).map h) b):=by
 have e:(fun(x:α)(b:Nat)(K:Option D→Nat→Prop)=>if p x then K none b else K (some (h x)) b)=fun x b K=>if ¬p x then K (some (h x)) b else K none b:=by
  funext x b K;by_cases hp:p x <;> simp[hp]
 rw[e,Zd8]
 simp
end
@[simp] theorem ZrJ {a b:Prop}[Decidable a][Decidable b]{X Y:Prop}:(if a then(if b then X else Y) else Y)=if a∧b then X else Y:=by
 by_cases ha:a <;> by_cases hb:b <;> simp[ha,hb]
@[simp] theorem Ztq {a b:Prop}[Decidable a][Decidable b]{X Y:Prop}:(if a then X else(if b then X else Y))=if a∨b then X else Y:=by
 by_cases ha:a <;> by_cases hb:b <;> simp[ha,hb]
@[simp] theorem ZrK {a:Prop}[Decidable a]{X Y Z:Prop}:(if a then X else(if a then Y else Z))=if a then X else Z:=by
 by_cases ha:a <;> simp[ha]
@[simp] theorem ZrL {a:Prop}[Decidable a]{X Y Z:Prop}:(if a then(if a then X else Y) else Z)=if a then X else Z:=by
 by_cases ha:a <;> simp[ha]
@[simp] theorem Zre {α:Type}{xs:List α}{p:α→Bool}(h:xs.length≤sizeLine):(xs.filter p).length≤sizeLine:=Nat.le_trans (List.length_filter_le _ _) h
@[simp] theorem sz_0:0≤sizeLine:=Nat.zero_le _
@[simp] theorem ZwK:0<sizeLine:=by decide +kernel
@[simp] theorem sz_1:1≤sizeLine:=by decide +kernel
@[simp] theorem sz_2:2≤sizeLine:=by decide +kernel
@[simp] theorem sz_3:3≤sizeLine:=by decide +kernel
@[simp] theorem sz_4:4≤sizeLine:=by decide +kernel
@[simp] theorem sz_5:5≤sizeLine:=by decide +kernel
@[simp] theorem sz_6:6≤sizeLine:=by decide +kernel
@[simp] theorem sz_7:7≤sizeLine:=by decide +kernel
@[simp] theorem sz_8:8≤sizeLine:=by decide +kernel
@[simp] theorem sz_9:9≤sizeLine:=by decide +kernel
@[simp] theorem ZxS:10≤sizeLine:=by decide +kernel
@[simp] theorem ZxT:11≤sizeLine:=by decide +kernel
@[simp] theorem ZpR:12≤sizeLine:=by decide +kernel
@[simp] theorem ZxU:13≤sizeLine:=by decide +kernel
@[simp] theorem ZxV:14≤sizeLine:=by decide +kernel
@[simp] theorem ZxW:15≤sizeLine:=by decide +kernel
@[simp] theorem ZxX:16≤sizeLine:=by decide +kernel
@[simp] theorem ZpS:17≤sizeLine:=by decide +kernel
@[simp] theorem ZxY:18≤sizeLine:=by decide +kernel
@[simp] theorem ZxZ:19≤sizeLine:=by decide +kernel
@[simp] theorem Zx0:20≤sizeLine:=by decide +kernel
@[simp] theorem Zx1:21≤sizeLine:=by decide +kernel
@[simp] theorem Zx2:22≤sizeLine:=by decide +kernel
@[simp] theorem Zx3:23≤sizeLine:=by decide +kernel
@[simp] theorem Zx4:24≤sizeLine:=by decide +kernel
@[simp] theorem Zx5:25≤sizeLine:=by decide +kernel
@[simp] theorem Zx6:26≤sizeLine:=by decide +kernel
@[simp] theorem Zx7:27≤sizeLine:=by decide +kernel
@[simp] theorem Zx8:28≤sizeLine:=by decide +kernel
@[simp] theorem Zx9:29≤sizeLine:=by decide +kernel
@[simp] theorem Zya:30≤sizeLine:=by decide +kernel
@[simp] theorem Zyb:31≤sizeLine:=by decide +kernel
@[simp] theorem Zyc:32≤sizeLine:=by decide +kernel
@[simp] theorem Zyd:33≤sizeLine:=by decide +kernel
@[simp] theorem Zye:34≤sizeLine:=by decide +kernel
@[simp] theorem Zyf:35≤sizeLine:=by decide +kernel
@[simp] theorem Zyg:36≤sizeLine:=by decide +kernel
@[simp] theorem Zyh:37≤sizeLine:=by decide +kernel
@[simp] theorem Zyi:38≤sizeLine:=by decide +kernel
@[simp] theorem Zyj:39≤sizeLine:=by decide +kernel
@[simp] theorem Zyk:40≤sizeLine:=by decide +kernel
section
variable {α:Type}{x y z u v:α}{xs:List α}
@[simp] theorem ZxB:ixD (x :: xs) 0=some x:=nr rfl
@[simp] theorem ZxC:ixD (x :: y :: xs) 1=some y:=nr rfl
@[simp] theorem ZxD:ixD (x :: y :: z :: xs) 2=some z:=nr rfl
@[simp] theorem ZxE:ixD (x :: y :: z :: u :: xs) 3=some u:=nr rfl
@[simp] theorem ZxF:ixD (x :: y :: z :: u :: v :: xs) 4=some v:=nr rfl
end
end Vw
namespace Vw
open PySem Sw
section
variable {S:Za}{ρ:PEnv}{tg tl:Tg}{p:ZO}{x:Shut}{z:Seat}{sh:Zr}{r:Room}{t:Sw.Tab}{l:List Sw.Tab}{st st2:List Str}{i a b c d:Int}{lo hi:Option Int}{k:Ty}
@[simp] theorem Zov:setV (.tp tg tl) (ZZ p) ρ=ZJ (.tp tg tl) [.str p.nm,.int p.g,.int p.b,.int p.s] ρ:=by unfold ZZ;rw[YS]
@[simp] theorem ZpK:setV (.tp tg tl) (Wz x) ρ=ZJ (.tp tg tl) [.str x.t,.int x.b,.int x.s] ρ:=by unfold Wz;rw[YS]
@[simp] theorem ZpJ:setV (.tp tg tl) (YJ z) ρ=ZJ (.tp tg tl) [.str z.nm,Zd z.st] ρ:=by unfold YJ;rw[YS]
@[simp] theorem Zow:setV (.tp tg tl) (ZL sh) ρ=ZJ (.tp tg tl) [.int sh.hours,.tup (sh.shuts.map Wz),.tup (sh.parties.map ZZ),.tup (sh.seats.map YJ)] ρ:=by unfold ZL;rw[YS]
@[simp] theorem ZpI:setV (.tp tg tl) (Zj r) ρ=ZJ (.tp tg tl) [.tup (r.rows.map ZF),.int r.lost] ρ:=by unfold Zj;rw[YS]
@[simp] theorem Zq6:setV (.tp tg tl) (tabD t) ρ=ZJ (.tp tg tl) [.str t.1,.int t.2] ρ:=by unfold tabD;rw[YS]
@[simp] theorem ZpL:setV (.tp tg tl) (Xg a b) ρ=ZJ (.tp tg tl) [.int a,.int b] ρ:=by unfold Xg;rw[YS]
@[simp] theorem ZqQ:ixOf S (ZZ p) (.int i)=ixD [.str p.nm,.int p.g,.int p.b,.int p.s] i:=nr rfl
@[simp] theorem ZrP:ixOf S (Wz x) (.int i)=ixD [.str x.t,.int x.b,.int x.s] i:=nr rfl
@[simp] theorem ZrO:ixOf S (YJ z) (.int i)=ixD [.str z.nm,Zd z.st] i:=nr rfl
@[simp] theorem ZqR:ixOf S (ZL sh) (.int i)=ixD [.int sh.hours,.tup (sh.shuts.map Wz),.tup (sh.parties.map ZZ),.tup (sh.seats.map YJ)] i:=nr rfl
@[simp] theorem ZrN:ixOf S (Zj r) (.int i)=ixD [.tup (r.rows.map ZF),.int r.lost] i:=nr rfl
@[simp] theorem Ztr:ixOf S (tabD t) (.int i)=ixD [.str t.1,.int t.2] i:=nr rfl
@[simp] theorem ZrQ:ixOf S (Xg a b) (.int i)=ixD [.int a,.int b] i:=nr rfl
@[simp] theorem ZqS:ixOf S (Zd st) (.int i)=ixD (st.map .str) i:=nr rfl
@[simp] theorem ZrM:ixOf S (ZF l) (.int i)=ixD (l.map tabD) i:=nr rfl
@[simp] theorem ZmY:Zy (ZZ p)=false:=nr rfl
@[simp] theorem Zol:Zy (Wz x)=false:=nr rfl
@[simp] theorem Zok:Zy (YJ z)=false:=nr rfl
@[simp] theorem ZmZ:Zy (ZL sh)=false:=nr rfl
@[simp] theorem Zoj:Zy (Zj r)=false:=nr rfl
@[simp] theorem Zo7:Zy (tabD t)=false:=nr rfl
@[simp] theorem Zoi:Zy (ZF l)=false:=nr rfl
@[simp] theorem Zm0:Zy (Zd st)=false:=nr rfl
@[simp] theorem Zom:Zy (Xg a b)=false:=nr rfl
@[simp] theorem ZmX:isNon (Zd st)=false:=nr rfl
@[simp] theorem ZmW:isNon (ZZ p)=false:=nr rfl
@[simp] theorem ZpP:srcD .it S [Zd st]=some (st.map .str):=nr rfl
@[simp] theorem Zrb:srcD .it S [ZF l]=some (l.map tabD):=nr rfl
@[simp] theorem Zpq:biD .len S [Zd st]=some (.int st.length):=by show some (D.int ((st.map D.str).length:Nat))=_;rw[List.length_map]
@[simp] theorem ZqT:biD .len S [ZF l]=some (.int l.length):=by show some (D.int ((l.map tabD).length:Nat))=_;rw[List.length_map]
@[simp] theorem ZpV:biD .tuple S [Zd st]=some (Zd st):=nr rfl
@[simp] theorem Zpv:biD .list S [Zd st]=some (.lst (st.map .str)):=nr rfl
@[simp] theorem Zra:slOf S (ZZ p) (some 2) none=some (Xg p.b p.s):=nr rfl
@[simp] theorem Zq9:slOf S (ZZ p) (some 1) none=some (.tup [.int p.g,.int p.b,.int p.s]):=nr rfl
@[simp] theorem ZsE:slOf S (Wz x) (some 1) none=some (Xg x.b x.s):=nr rfl
@[simp] theorem Zqb:eqD S (Zd st) (Zd st2)=some (decide (st=st2)):=ZiW
@[simp] theorem Zru {x y:Str}:eqD S (.str x) (.str y)=some (decide (x=y)):=Zk3
def has (x:Str)(ys:List Str):Bool:=decide (x∈ys)
@[simp] theorem Zqf {x:Str}:inD S (.str x) (Zd st)=some (has x st):=Zbj
@[simp] theorem Zrv {α:Type}{x:Str}{f:α→Str}{ys:List α}:inD S (.str x) (.lst (ys.map fun y=>.str (f y)))=some (has x (ys.map f)):=by
 have:(ys.map fun y=>D.str (f y))=(ys.map f).map .str:=by rw[List.map_map];rfl
 rw[this];exact Ze7
@[simp] theorem Zrw {α:Type}{x:Str}{f:α→Str}{ys:List α}:inD S (.str x) (.tup (ys.map fun y=>.str (f y)))=some (has x (ys.map f)):=by
 have:(ys.map fun y=>D.str (f y))=(ys.map f).map .str:=by rw[List.map_map];rfl
 rw[this];exact Zbj
@[simp] theorem Zqd {x:Str}{ys:List Str}:inD S (.str x) (.lst (ys.map .str))=some (has x ys):=Ze7
@[simp] theorem Zqe {x:Str}{ys:List Str}:inD S (.str x) (.tup (ys.map .str))=some (has x ys):=Zbj
end
section
variable {Q:QW}{c:Prop}[Decidable c]{b:Bool}{w:W}
@[simp] theorem ZvH:(if c then Q (.bl b) w else Q (.bl false) w)=Q (.bl (decide c && b)) w:=by by_cases h:c <;> simp[h]
@[simp] theorem ZvI:(if c then Q (.bl true) w else Q (.bl b) w)=Q (.bl (decide c || b)) w:=by by_cases h:c <;> simp[h]
@[simp] theorem ZvG:(if c then Q (.bl false) w else Q (.bl b) w)=Q (.bl (!decide c && b)) w:=by by_cases h:c <;> simp[h]
end
def natD (i:Nat):D:=.int (i:Int)
@[simp] theorem Zo5 {i:Nat}:Zy (natD i)=false:=nr rfl
section
variable {α:Type}{S:Za}{xs:List α}
theorem Wl {f:α→Bool}:∀xs:List α,blsD (xs.map fun x=>.bl (f x))=some (xs.map f)
 | []=>rfl
 | x :: r=>by rw[List.map_cons,blsD,Wl r];rfl
theorem WD {f:α→Int}:∀xs:List α,Ww (xs.map fun x=>.int (f x))=some (xs.map f)
 | []=>rfl
 | x :: r=>by rw[List.map_cons,Ww,WD r];rfl
@[simp] theorem ZsT {f:α→Bool}:biD .all S [.lst (xs.map fun x=>.bl (f x))]=some (.bl (xs.all f)):=by
 rw[show biD .all=allF from rfl]
 unfold allF;dsimp only[peel];rw[Wl]
 simp[List.all_map]
@[simp] theorem ZsU {f:α→Bool}:biD .any S [.lst (xs.map fun x=>.bl (f x))]=some (.bl (xs.any f)):=by
 rw[show biD .any=anyF from rfl]
 unfold anyF;dsimp only[peel];rw[Wl]
 simp[List.any_map]
@[simp] theorem Zs5 {f:α→Int}:biD .sum S [.lst (xs.map fun x=>.int (f x))]=some (.int (xs.map f).sum):=by
 rw[show biD .sum=sumF from rfl]
 unfold sumF;dsimp only[peel];rw[WD]
 rfl
end
end Vw
namespace Vw
open PySem Sw
def Zgu (ys:List Str):List Str:=Wi .str ys
theorem sorted_strs {S:Za}{ys:List Str}:biD .sorted S [.lst (ys.map .str)]=some (.lst ((Zgu ys).map .str)):=
 ZjE D.str ys (fun _ _=>rfl) (fun x _ y _=>by simp[D.toP,PySem.W.alike]) (.inr fun _ _=>rfl) fun x _=>by simp[D.toP,PyData.depth]
@[simp] theorem ZnV {S:Za}{ys:List Str}:biD .sorted S [.lst (ys.map .str)]=some (.lst ((Zgu ys).map .str)):=sorted_strs
@[simp] theorem Zox {S:Za}{α:Type}{f:α→Str}{ys:List α}:biD .sorted S [.lst (ys.map fun y=>.str (f y))]=some (.lst ((Zgu (ys.map f)).map .str)):=by
 have:(ys.map fun y=>D.str (f y))=(ys.map f).map .str:=by rw[List.map_map];rfl
 rw[this];exact sorted_strs
end Vw
namespace Vw
open PySem Sw
structure Base (T:Tab)(f:Str)(b:Bs):Prop where
 bs:T.bs f=some b
 df:T.df "" f=none
theorem Base.eq {T:Tab}{f:Str}{b:Bs}(h:Base T f b){n:Nat}{ds:List D}{w:W}{Q:QW}:cT T n "" f ds w Q=bsV b ds w Q:=ZoJ h.bs h.df
section
variable {T:Tab}
end
end Vw
namespace Vw
open PySem Sw
abbrev eL {α:Type}(f:α→D)(xs:List α):D:=.lst (xs.map f)
abbrev eT {α:Type}(f:α→D)(xs:List α):D:=.tup (xs.map f)
abbrev eP1 {α:Type}(f:α→D)(x:α):D:=.tup [f x]
abbrev eP2 {α β:Type}(f:α→D)(g:β→D)(x:α×β):D:=.tup [f x.1,g x.2]
abbrev eP3 {α β γ:Type}(f:α→D)(g:β→D)(h:γ→D)(x:α×β×γ):D:=.tup [f x.1,g x.2.1,h x.2.2]
abbrev eP4 {α β γ δ:Type}(f:α→D)(g:β→D)(h:γ→D)(k:δ→D)(x:α×β×γ×δ):D:=.tup [f x.1,g x.2.1,h x.2.2.1,k x.2.2.2]
def eO {α:Type}(f:α→D):Option α→D
 | none=>.non
 | some x=>f x
def eM {α:Type}(f:α→D)(kvs:List (Str×α)):D:=.dic (kvs.map fun kv=>.inr kv.1) (kvs.map fun kv=>f kv.2)
def oc {α τ:Type}(x:Option α)(u:τ)(v:α→τ):τ:=match x with
 | none=>u
 | some y=>v y
@[simp] theorem Zuj {α τ:Type}{u:τ}{v:α→τ}:oc none u v=u:=rfl
@[simp] theorem Zuk {α τ:Type}{y:α}{u:τ}{v:α→τ}:oc (some y) u v=v y:=rfl
def sc {ρ σ τ:Type}(x:Sum ρ σ)(u:ρ→τ)(v:σ→τ):τ:=match x with
 | .inl r=>u r
 | .inr s=>v s
@[simp] theorem ZwB {ρ σ τ:Type}{y:ρ}{u:ρ→τ}{v:σ→τ}:sc (.inl y) u v=u y:=rfl
@[simp] theorem ZwC {ρ σ τ:Type}{y:σ}{u:ρ→τ}{v:σ→τ}:sc (.inr y) u v=v y:=rfl
def WY {α σ:Type}(ok:σ→α→Prop)(step:σ→α→σ):List α→σ→Prop
 | [],_=>True
 | x :: r,s=>ok s x∧WY ok step r (step s x)
def WZ {α σ τ:Type}(ok:σ→α→Prop)(step:σ→α→Sum τ σ):List α→σ→Prop
 | [],_=>True
 | x :: r,s=>ok s x∧sc (step s x) (fun _=>True) (WZ ok step r)
theorem WY.inv {α σ:Type}{ok:σ→α→Prop}{step:σ→α→σ}(I:List α→σ→Prop)(h:∀x r s,I (x :: r) s→ok s x∧I r (step s x)):∀(xs:List α)(s:σ),I xs s→WY ok step xs s
 | [],_,_=>trivial
 | x :: r,s,i=>⟨(h x r s i).1,WY.inv I h r _ (h x r s i).2⟩
theorem WY.all {α σ:Type}{ok:σ→α→Prop}{step:σ→α→σ}:∀(xs:List α)(s:σ),(∀s x,x∈xs→ok s x)→WY ok step xs s
 | [],_,_=>trivial
 | x :: r,s,h=>⟨h s x (by simp),WY.all r _ fun s y hy=>h s y (List.mem_cons_of_mem _ hy)⟩
theorem WZ.inv {α σ τ:Type}{ok:σ→α→Prop}{step:σ→α→Sum τ σ}(I:List α→σ→Prop)(h:∀x r s,I (x :: r) s→ok s x∧∀s',step s x=.inr s'→I r s'):∀(xs:List α)(s:σ),I xs s→WZ ok step xs s
 | [],_,_=>trivial
 | x :: r,s,i=>⟨(h x r s i).1,by
   cases e:step s x with
   | inl _=>exact trivial
   | inr s'=>exact WZ.inv I h r _ ((h x r s i).2 s' e)⟩
theorem WZ.all {α σ τ:Type}{ok:σ→α→Prop}{step:σ→α→Sum τ σ}(xs:List α)(s:σ)(h:∀s x,x∈xs→ok s x):WZ ok step xs s:=
 WZ.inv (fun r _=>∀x∈r,∀s,ok s x) (fun x r s i=>⟨i x (by simp) s,fun s' _ y hy=>i y (List.mem_cons_of_mem _ hy)⟩) xs s fun x hx s=>h s x hx
structure Gd {α:Type}(f:α→D)(n:Nat):Prop where
 inj:∀x y,f x=f y→x=y
 nb:∀x,(f x).nb=true
 dp:∀x,(f x).toP.depth≤n
 nn:∀x,f x≠.non
theorem Zg7:Gd D.str 0:=⟨fun _ _ h=>by injection h,fun _=>rfl,fun _=>by simp[D.toP,PyData.depth],fun _ h=>by cases h⟩
theorem ZaH:Gd D.int 0:=⟨fun _ _ h=>by injection h,fun _=>rfl,fun _=>by simp[D.toP,PyData.depth],fun _ h=>by cases h⟩
theorem ZoV {α:Type}{f:α→D}{n:Nat}(h:Gd f n):Gd (eL f) (n+1):=⟨fun x y e=>map_inj h.inj (by injection e),fun x=>Vz.mpr fun d hd=>by obtain⟨z,_,rfl⟩:=List.mem_map.mp hd;exact h.nb z,fun x=>by
 rw[D.toP,PyData.depth]
 have:=XE (n:=n) (ds:=x.map f) fun d hd=>by obtain⟨z,_,rfl⟩:=List.mem_map.mp hd;exact h.dp z
 omega,fun _ h=>by cases h⟩
section
variable {S:Za}{α:Type}{f:α→D}{n:Nat}{x y:α}{xs ys:List α}
theorem ZaD [DecidableEq α](h:Gd f n)(hn:n≤64):eqD S (f x) (f y)=some (decide (x=y)):=by
 rw[ZfU (h.nb x) (h.nb y) (.inl (by have:=h.dp x;omega))]
 congr 1
 rw[decide_eq_decide]
 exact⟨h.inj x y,fun e=>by rw[e]⟩
end
structure Srt {α:Type}(f:α→D):Prop where
 pu:∀x,(f x).pure=true
 al:∀x y,PySem.W.alike (f x).toP (f y).toP=true
 kd:(∀x,Za5 (f x)=true)∨(∀x,ZaS (f x)=true)
 dp:∀x,(f x).toP.depth≤20
end Vw
namespace Vw
open PySem Sw
structure J (G:Cfg)(C:CT)(md:Md)(e:M)(ρ:PEnv)(w:W)(d:D):Prop where
 go:∀Q:QW,Q d w→xE G C md e ρ w Q
instance {G:Cfg} {C:CT} {md:Md} {e:M} {ρ:PEnv} {w:W} {d:D}:CoeFun (J G C md e ρ w d) (fun _=>∀Q:QW,Q d w→xE G C md e ρ w Q):=⟨J.go⟩
structure Js (G:Cfg)(C:CT)(md:Md)(es:Ms)(ρ:PEnv)(w:W)(ds:List D):Prop where
 go:∀Q:List D→W→Prop,Q ds w→xEs G C md es ρ w Q
instance {G:Cfg} {C:CT} {md:Md} {es:Ms} {ρ:PEnv} {w:W} {ds:List D}:CoeFun (Js G C md es ρ w ds) (fun _=>∀Q:List D→W→Prop,Q ds w→xEs G C md es ρ w Q):=⟨Js.go⟩
structure Ji (G:Cfg)(C:CT)(es:Ms)(ρ:PEnv)(w:W)(is:List Int):Prop where
 go:∀Q:List Int→W→Prop,Q is w→xIs G C es ρ w Q
instance {G:Cfg} {C:CT} {es:Ms} {ρ:PEnv} {w:W} {is:List Int}:CoeFun (Ji G C es ρ w is) (fun _=>∀Q:List Int→W→Prop,Q is w→xIs G C es ρ w Q):=⟨Ji.go⟩
structure JT (G:Cfg)(C:CT)(es:Ms)(ρ:PEnv)(w:W)(t:Bool):Prop where
 go:∀Q:Bool→W→Prop,Q t w→xTs G C es ρ w Q
instance {G:Cfg} {C:CT} {es:Ms} {ρ:PEnv} {w:W} {t:Bool}:CoeFun (JT G C es ρ w t) (fun _=>∀Q:Bool→W→Prop,Q t w→xTs G C es ρ w Q):=⟨JT.go⟩
section
variable {G:Cfg}{C:CT}{md:Md}{ρ:PEnv}{w:W}{a b c e:M}{as:Ms}{d x y z u:D}{ds:List D}{i:Nat}{s t:Bool}
theorem j_v (h:ρ[i]?=some (some (false,d))):J G C md (.v i) ρ w d:=.mk fun Q q=>by rw[xE];unfold atV;rw[h];exact q
theorem j_k:J G C md (.k d) ρ w d:=.mk fun Q q=>by rw[xE];exact q
theorem ZH {o:Operator}(ha:J G C .op a ρ w x)(hb:J G C .op b ρ w y)(h:binD o w.S x y=some z):J G C md (.bin o a b) ρ w z:=.mk fun Q q=>by
 rw[xE];refine ha _ (hb _ ?_);rw[h];exact q
theorem Zf0 {k:Int}(ha:J G C .ex a ρ w (.int k)):J G C md (.neg a) ρ w (.int (-k)):=.mk fun Q q=>by rw[xE];exact ha _ q
theorem WR {o:CmpOp}{t:Bool}(ha:J G C (YN o).1 a ρ w x)(hb:J G C (YN o).2 b ρ w y)(h:cmpB o w.S x y=some t):J G C md (.cmp o a b) ρ w (.bl t):=.mk fun Q q=>by
 rw[xE];refine ha _ (hb _ ?_);rw[h];exact q
theorem ZfZ {s t:Bool}(ha:J G C md a ρ w (.bl s))(hb:s=true→J G C md b ρ w (.bl t)):J G C md (.and a b) ρ w (.bl (s && t)):=.mk fun Q q=>by
 rw[xE];refine ha _ ?_
 show if s=true then _ else _
 cases s with
 | true=>rw[if_pos rfl];exact hb rfl _ q
 | false=>rw[if_neg (by decide)];exact q
theorem j_or {s t:Bool}(ha:J G C md a ρ w (.bl s))(hb:s=false→J G C md b ρ w (.bl t)):J G C md (.or a b) ρ w (.bl (s || t)):=.mk fun Q q=>by
 rw[xE];refine ha _ ?_
 show if s=true then _ else _
 cases s with
 | true=>rw[if_pos rfl];exact q
 | false=>rw[if_neg (by decide)];exact hb rfl _ q
theorem Zj0 {t:Bool}(ha:J G C .op a ρ w x)(h:truD w.S x=some t):J G C md (.not a) ρ w (.bl (!t)):=.mk fun Q q=>by
 rw[xE];refine ha _ ?_;rw[h];exact q
theorem Zf:Js G C md .nil ρ w []:=.mk fun Q q=>by rw[xEs];exact q
theorem Zc (ha:J G C md a ρ w x)(h:Js G C md as ρ w ds):Js G C md (.cons a as) ρ w (x :: ds):=.mk fun Q q=>by rw[xEs];exact ha _ (h _ q)
theorem Zdk:Ji G C .nil ρ w []:=.mk fun Q q=>by rw[xIs];exact q
theorem Qt {k:Int}{is:List Int}(ha:J G C .ex a ρ w (.int k))(h:Ji G C as ρ w is):Ji G C (.cons a as) ρ w (k :: is):=.mk fun Q q=>by rw[xIs];exact ha _ (h _ q)
theorem Znh:JT G C .nil ρ w true:=.mk fun Q q=>by rw[xTs];exact q
theorem Z3 (h:Js G C .ex as ρ w ds)(hl:ds.length≤sizeLine):J G C md (.tup as) ρ w (.tup ds):=.mk fun Q q=>by rw[xE];exact h _ ⟨hl,q⟩
theorem Xu (h:Js G C .ex as ρ w ds)(hl:ds.length≤sizeLine):J G C md (.lst as) ρ w (.lst ds):=.mk fun Q q=>by rw[xE];exact h _ ⟨hl,q⟩
theorem ZjZ {ks:List Str}(h:Js G C .ex as ρ w ds):J G C md (.dct ks as) ρ w (.dic (ks.map Sum.inr) ds):=.mk fun Q q=>by rw[xE];exact h _ q
theorem ZaK {k:Ty}{t:Bool}(ha:J G C .op a ρ w x)(h:isaD k w.S x=some t):J G C md (.isa k a) ρ w (.bl t):=.mk fun Q q=>by rw[xE];refine ha _ ?_;rw[h];exact q
theorem j_bi {f:Bi}(ha:Js G C (biMd f) as ρ w ds)(h:biD f w.S ds=some z):J G C md (.bi f as) ρ w z:=.mk fun Q q=>by rw[xE];refine ha _ ?_;rw[h];exact q
theorem j_ix (ha:J G C .op a ρ w x)(hb:J G C .ex b ρ w y)(h:ixOf w.S x y=some z):J G C md (.ix a b) ρ w z:=.mk fun Q q=>by rw[xE];refine ha _ (hb _ ?_);rw[h];exact q
theorem Wb {l:Int}(ha:J G C .op a ρ w x)(hb:J G C .ex b ρ w (.int l))(h:slOf w.S x (some l) none=some z):J G C md (.sl true false a (.cons b .nil)) ρ w z:=.mk fun Q q=>by
 rw[xE];refine ha _ (Qt hb Zdk _ ?_);show optD _ _;rw[h];exact q
theorem XI {l:Int}(ha:J G C .op a ρ w x)(hb:J G C .ex b ρ w (.int l))(h:slOf w.S x none (some l)=some z):J G C md (.sl false true a (.cons b .nil)) ρ w z:=.mk fun Q q=>by
 rw[xE];refine ha _ (Qt hb Zdk _ ?_);show optD _ _;rw[h];exact q
theorem Zhm {l k:Int}(ha:J G C .op a ρ w x)(hb:J G C .ex b ρ w (.int l))(hc:J G C .ex c ρ w (.int k))(h:slOf w.S x (some l) (some k)=some z):J G C md (.sl true true a (.cons b (.cons c .nil))) ρ w z:=.mk fun Q q=>by
 rw[xE];refine ha _ (Qt hb (Qt hc Zdk) _ ?_);show optD _ _;rw[h];exact q
theorem Zhl {f:Str}(ha:Js G C .ex as ρ w ds)(h:∀Q:QW,Q d w→C "" f ds w Q):J G C md (.call f as) ρ w d:=.mk fun Q q=>by rw[xE];exact ha _ (h _ q)
theorem Zj1 (ha:J G C .op a ρ w x)(h:revD w.S x=some z):J G C md (.rev a) ρ w z:=.mk fun Q q=>by rw[xE];refine ha _ ?_;rw[h];exact q
theorem j_eq (h:J G C md e ρ w x)(q:x=y):J G C md e ρ w y:=q▸h
theorem WX {s:Src}{ds items:List D}{w:W}(h:srcD s w.S ds=some items):stab s ds items w:=by
 unfold stab;split
 · exact h
 · trivial
theorem Zaq {α β:Type}{f:α→D}{g:β→D}{c:α→Bool}{h:α→β}{step:D→Nat→(Option D→Nat→Prop)→Prop}{Q:List D→Nat→Prop}{b:Nat}
  : ∀(xs:List α)(acc:List D),acc.length+xs.length≤sizeLine→(∀x∈xs,∀K:Option D→Nat→Prop,K (if c x=true then some (g (h x)) else none) b→step (f x) b K)→Q (acc++(((xs.filter c).map h).map g)) b→XA step (xs.map f) acc b Q
 | [],acc,_,_,q=>by simp only[List.map_nil,XA];simpa using q
 | x :: r,acc,hl,hs,q=>by
   rw[List.map_cons,XA]
   refine hs x (by simp) _ ?_
   rw[List.filter_cons] at q
   by_cases hc:c x=true
   · rw[if_pos hc] at q ⊢
     refine⟨by simp at hl;omega,Zaq r _ (by simp at hl ⊢;omega) (fun y hy=>hs y (List.mem_cons_of_mem _ hy)) ?_⟩
     simpa using q
   · rw[if_neg hc] at q ⊢
     exact Zaq r acc (by simp at hl;omega) (fun y hy=>hs y (List.mem_cons_of_mem _ hy)) q
theorem Qm {α β:Type}{f:α→D}{g:β→D}{c:α→Bool}{h:α→β}{step:D→W→(Option D→W→Prop)→Prop}{Q:List D→W→Prop}{w:W}
  : ∀(xs:List α)(acc:List D),acc.length+xs.length≤sizeLine→(∀x∈xs,∀K:Option D→W→Prop,K (if c x=true then some (g (h x)) else none) w→step (f x) w K)→Q (acc++(((xs.filter c).map h).map g)) w→Y8 step (xs.map f) acc w Q
 | [],acc,_,_,q=>by simp only[List.map_nil,Y8];simpa using q
 | x :: r,acc,hl,hs,q=>by
   rw[List.map_cons,Y8]
   refine hs x (by simp) _ ?_
   rw[List.filter_cons] at q
   by_cases hc:c x=true
   · rw[if_pos hc] at q ⊢
     refine⟨by simp at hl;omega,Qm r _ (by simp at hl ⊢;omega) (fun y hy=>hs y (List.mem_cons_of_mem _ hy)) ?_⟩
     simpa using q
   · rw[if_neg hc] at q ⊢
     exact Qm r acc (by simp at hl;omega) (fun y hy=>hs y (List.mem_cons_of_mem _ hy)) q
theorem Znc {α β:Type}{s:Src}{own:List Nat}{tg:Tg}{cs:Ms}(f:α→D)(g:β→D)(xs:List α)(c:α→Bool)(h:α→β)(ha:Js G C (Vg s) as ρ w ds)(hs:srcD s w.S ds=some (xs.map f))(hl:xs.length≤sizeLine)
  (hb:∀x∈xs,∃ρ',setV tg (f x) (Yt ρ own)=some ρ'∧JT G C cs ρ' w (c x)∧(c x=true→J G C .ex e ρ' w (g (h x)))) :
  J G C md (.comp s as own tg cs e) ρ w (.lst (((xs.filter c).map h).map g)):=.mk fun Q q=>by
 rw[xE]
 refine ha _ ?_
 rw[hs]
 show if G.gc=true then _ else _
 split
 · refine Qm (f:=f) (g:=g) (c:=c) (h:=h) xs [] (by simpa using hl) (fun x hx K k=>⟨WX hs,?_⟩) ⟨WX hs,by simpa using q⟩
   obtain⟨ρ',e1,ht,he⟩:=hb x hx
   rw[e1]
   refine ht _ ?_
   by_cases hc:c x=true
   · rw[if_pos hc] at k ⊢;exact he hc _ k
   · rw[if_neg hc] at k ⊢;exact k
 · refine Zaq (f:=f) (g:=g) (c:=c) (h:=h) xs [] (by simpa using hl) (fun x hx K k=>?_) (by simpa using q)
   obtain⟨ρ',e1,ht,he⟩:=hb x hx
   rw[e1]
   refine ht _ ?_
   by_cases hc:c x=true
   · rw[if_pos hc] at k ⊢;exact he hc _ ⟨⟨rfl,rfl⟩,k⟩
   · rw[if_neg hc] at k ⊢;exact⟨⟨rfl,rfl⟩,k⟩
theorem Zfb {α β:Type}{s:Src}{own:List Nat}{tg:Tg}(f:α→D)(g:β→D)(xs:List α)(h:α→β)(ha:Js G C (Vg s) as ρ w ds)(hs:srcD s w.S ds=some (xs.map f))(hl:xs.length≤sizeLine)
  (hb:∀x∈xs,∃ρ',setV tg (f x) (Yt ρ own)=some ρ'∧J G C .ex e ρ' w (g (h x))) :
  J G C md (.comp s as own tg .nil e) ρ w (.lst ((xs.map h).map g)):=by
 have:=Znc (md:=md) f g xs (fun _=>true) h ha hs hl fun x hx=>by
  obtain⟨ρ',a,b⟩:=hb x hx
  exact⟨ρ',a,Znh,fun _=>b⟩
 rw[List.filter_eq_self.mpr (fun _ _=>rfl)] at this
 exact this
end
end Vw
namespace Vw
open PySem Sw
theorem ZK {i:Nat}{d:D}{ρ:PEnv}:setV (.nm i) d ρ=some (ρ.set i (some (false,d))):=by rw[setV]
inductive Out where
 | ret (d:D)
 | nx (ρ:PEnv)
 | fall
def Out.At (o:Out)(E:Xc)(w:W):Prop:=match o with
 | .ret d=>E.rt d w
 | .nx ρ=>E.nx ρ w
 | .fall=>∀ρ,E.nx ρ w
def run (G:Cfg)(C:CT)(lin:List Nat):List Cs→Xc→PEnv→W→Prop
 | [],E=>E.nx
 | k :: r,E=>xCs G C lin k { E with nx:=run G C lin r E }
structure JO (G:Cfg)(C:CT)(lin:List Nat)(ks:List Cs)(ρ:PEnv)(w:W)(o:Out):Prop where
 go:∀E:Xc,o.At E w→run G C lin ks E ρ w
instance {G:Cfg} {C:CT} {lin:List Nat} {ks:List Cs} {ρ:PEnv} {w:W} {o:Out}:CoeFun (JO G C lin ks ρ w o) (fun _=>∀E:Xc,o.At E w→run G C lin ks E ρ w):=⟨JO.go⟩
section
variable {G:Cfg}{C:CT}{lin:List Nat}{ρ ρ':PEnv}{w:W}{a b c e:M}{as:Ms}{d x y z u:D}{ds:List D}{i:Nat}{s t:Bool}{r p q:Cs}{ks:List Cs}{o:Out}{tg:Tg}
@[irreducible] def cX (T:Vw.Tab)(n:Nat):CT:=cT T n
theorem VU (T:Vw.Tab)(n:Nat):cX T n=cT T n:=by unfold cX;rfl
end
end Vw
namespace Vw
open PySem Sw
theorem ft {p:Prop}(z:true=false):p:=by cases z
section
variable {G:Cfg}{C:CT}{lin:List Nat}{ρ:PEnv}{w:W}{c:M}{x:D}{r p q:Cs}{ks:List Cs}{o:Out}
end
def rngZ (a b:Int):List Int:=(List.range (b - a).toNat).map fun i=>a+(i:Nat)
def RgB (b:Int):Prop:=-(2 ^ 62)≤b∧b<2 ^ 62
theorem Zgi {b:Int}(h:-1000000≤b∧b≤1000000):RgB b:=by unfold RgB;omega
def ZT (x:Str)(lo hi:Option Int):Str:=⟨(cutD x.cps.toList lo hi).toArray⟩
def Qs (x:Str)(i:Int):Str:=⟨#[(ixD x.cps.toList i).getD 0]⟩
def mulL {α:Type}(xs:List α)(k:Int):List α:=(List.replicate k.toNat xs).flatten
def lkM {α:Type}(kvs:List (Str×α))(k:Str):Option α:=(kvs.find? fun kv=>decide (kv.1=k)).map (·.2)
section
variable {S:Za}{α β:Type}{f:α→D}{g:β→D}{xs ys:List α}{zs:List β}{x y:Str}{i j k:Int}{a b:Bool}{n:Nat}
theorem add_str (h:x.length+y.length≤sizeLine):binD .Add S (.str x) (.str y)=some (.str (x++y)):=by
 show(if x.length+y.length≤sizeLine then _ else _)=_;rw[if_pos h]
theorem Zax (h:xs.length+ys.length≤sizeLine):binD .Add S (.lst (xs.map f)) (.lst (ys.map f))=some (.lst ((xs++ys).map f)):=by
 show(if(xs.map f).length+(ys.map f).length≤sizeLine then _ else _)=_;rw[if_pos (by simpa using h),List.map_append]
theorem ZfN (h:xs.length+ys.length≤sizeLine):binD .Add S (.tup (xs.map f)) (.tup (ys.map f))=some (.tup ((xs++ys).map f)):=by
 show(if(xs.map f).length+(ys.map f).length≤sizeLine then _ else _)=_;rw[if_pos (by simpa using h),List.map_append]
theorem Vv (k:Nat):(List.replicate k (xs.map f)).flatten=(List.replicate k xs).flatten.map f:=by
 induction k with
 | zero=>rfl
 | succ k ih=>rw[List.replicate_succ,List.flatten_cons,ih,List.replicate_succ,List.flatten_cons,List.map_append]
theorem Zpy (h:0≤k∧k<2 ^ 62∧xs.length * k.toNat≤sizeLine):binD .Mult S (.lst (xs.map f)) (.int k)=some (.lst ((mulL xs k).map f)):=by
 show(if 0≤k∧k<2 ^ 62∧(xs.map f).length * k.toNat≤sizeLine then _ else _)=_
 rw[if_pos (by simpa using h),Vv];rfl
theorem Zgg (h:WS i j=true∧i ^ j.toNat=k):binD .Pow S (.int i) (.int j)=some (.int k):=by
 show(if WS i j=true then some (D.int (i ^ j.toNat)) else none)=_;rw[if_pos h.1,h.2]
theorem mod_int (h:0<j):binD .Mod S (.int i) (.int j)=some (.int (i % j)):=by
 show(if 0<j then _ else _)=_;rw[if_pos h]
theorem Zj2 [DecidableEq α]{x y:α}(h:Gd f n)(hn:n≤64):(eqD S (f x) (f y)).map (!·)=some (!decide (x=y)):=by rw[ZaD h hn];rfl
theorem ZpE:revD S (.tup (xs.map f))=some (.tup (xs.reverse.map f)):=by show some _=_;rw[List.map_reverse]
theorem ZbH (lo hi:Option Int):cutD (xs.map f) lo hi=(cutD xs lo hi).map f:=by
 unfold cutD;rw[List.length_map,List.map_take,List.map_drop]
theorem sl_L {lo hi:Option Int}:slOf S (.lst (xs.map f)) lo hi=some (.lst ((cutD xs lo hi).map f)):=by rw[← ZbH];rfl
theorem sl_T {lo hi:Option Int}:slOf S (.tup (xs.map f)) lo hi=some (.tup ((cutD xs lo hi).map f)):=by rw[← ZbH];rfl
theorem Zh5 {lo hi:Option Int}(h:x.length≤sizeLine):slOf S (.str x) lo hi=some (.str (ZT x lo hi)):=by
 show(if x.length≤sizeLine then _ else _)=_;rw[if_pos h];rfl
theorem Zk8 (i:Int):ixD (xs.map f) i=(ixD xs i).map f:=by
 unfold ixD
 rw[List.length_map]
 split
 · rw[List.getElem?_map]
 · split
   · rw[List.getElem?_map]
   · rfl
theorem Zg8 {o:Option α}[Inhabited α](h:o.isSome=true):o=some (o.getD default):=by cases o with | none=>cases h | some x=>rfl
theorem ix_L [Inhabited α](h:(ixD xs i).isSome=true):ixOf S (.lst (xs.map f)) (.int i)=some (f ((ixD xs i).getD default)):=by
 show ixD (xs.map f) i=_
 rw[Zk8];conv=>lhs;rw[Zg8 h]
 rfl
theorem Zm8 (h:x.length≤sizeLine∧(ixD x.cps.toList i).isSome=true):ixOf S (.str x) (.int i)=some (.str (Qs x i)):=by
 show(if x.length≤sizeLine then _ else _)=_
 rw[if_pos h.1];unfold Qs
 cases e:ixD x.cps.toList i with
 | none=>rw[e] at h;cases h.2
 | some c=>rfl
theorem QT (a b:Int):ZN a b=(rngZ a b).map .int:=by unfold ZN rngZ;rw[List.map_map];rfl
theorem XX {b:Int}(h:RgB b):srcD .rng1 S [.int b]=some ((rngZ 0 b).map .int):=by
 show(if -(2 ^ 62)≤b∧b<2 ^ 62 then some (ZN 0 b) else none)=_
 rw[if_pos (show -(2 ^ 62)≤b∧b<2 ^ 62 from h),QT]
theorem Uk {a b:Int}(h1:RgB a)(h2:RgB b):srcD .rng2 S [.int a,.int b]=some ((rngZ a b).map .int):=by
 show(if(-(2 ^ 62)≤a∧a<2 ^ 62)∧-(2 ^ 62)≤b∧b<2 ^ 62 then some (ZN a b) else none)=_
 rw[if_pos (show(-(2 ^ 62)≤a∧a<2 ^ 62)∧-(2 ^ 62)≤b∧b<2 ^ 62 from⟨h1,h2⟩),QT]
theorem Zf4:biD .len S [.lst (xs.map f)]=some (.int (xs.length:Int)):=by show some (D.int ((xs.map f).length:Int))=_;rw[List.length_map]
theorem Zfh (h:x.length≤sizeLine):biD .len S [.str x]=some (.int (x.length:Int)):=by show(if x.length≤sizeLine then _ else _)=_;rw[if_pos h]
end
instance:Inhabited ZO:=⟨⟨Str.ofString "",0,0,0⟩⟩
instance:Inhabited Shut:=⟨⟨Str.ofString "",0,0⟩⟩
instance:Inhabited Seat:=⟨⟨Str.ofString "",[]⟩⟩
instance:DecidableEq ZO:=fun a b=>if h:a.nm=b.nm∧a.g=b.g∧a.b=b.b∧a.s=b.s then isTrue (by cases a;cases b;simp_all) else isFalse fun e=>h (by subst e;simp)
instance:DecidableEq Shut:=fun a b=>if h:a.t=b.t∧a.b=b.b∧a.s=b.s then isTrue (by cases a;cases b;simp_all) else isFalse fun e=>h (by subst e;simp)
instance:DecidableEq Seat:=fun a b=>if h:a.nm=b.nm∧a.st=b.st then isTrue (by cases a;cases b;simp_all) else isFalse fun e=>h (by subst e;simp)
structure Al {α:Type}(f:α→D)(n:Nat):Prop where
 pu:∀x,(f x).pure=true
 al:∀x y,PySem.W.alike (f x).toP (f y).toP=true
 dp:∀x,(f x).toP.depth≤n
end Vw
namespace Vw
open PySem Sw
end Vw
namespace Vw
open PySem Sw
theorem ZoG (a b:Nat):Builtin.bitAnd (a:Int) (b:Int)=((a &&& b:Nat):Int):=PySem.W.os_band a b
theorem borN (a b:Nat):Builtin.bitOr (a:Int) (b:Int)=((a ||| b:Nat):Int):=by
 unfold Builtin.bitOr Builtin.bitAnd Builtin.bitNot
 have h1:¬(0≤-(a:Int) - 1):=by omega
 have h2:¬(0≤-(b:Int) - 1):=by omega
 simp only[h1,h2,decide_false]
 have e1:(-(-(a:Int) - 1) - 1).toNat=a:=by omega
 have e2:(-(-(b:Int) - 1) - 1).toNat=b:=by omega
 rw[e1,e2]
 omega
section
variable {S:Za}{a b:Nat}
@[simp] theorem Zp8:binD .BitAnd S (.int (a:Int)) (.int (b:Int))=some (.int ((a &&& b:Nat):Int)):=by rw[← ZoG];rfl
@[simp] theorem ZiI:binD .BitOr S (.int (a:Int)) (.int (b:Int))=some (.int ((a ||| b:Nat):Int)):=by rw[← borN];rfl
@[simp] theorem Zp9:binD .BitOr S (.int 0) (.int (b:Int))=some (.int (b:Int)):=by
 have:=ZiI (S:=S) (a:=0) (b:=b)
 simpa using this
end
section
variable {T:Vw.Tab}
end
def ZjR (r:Room)(x:Str):Nat:=2 ^ ((namesOf r.rows).idxOf x)
def maskOf (r:Room)(st:List Str):Nat:=(st.map (ZjR r)).sum
abbrev Fs:=List Str×Nat×Int
def fsD (t:Fs):D:=.tup [Zd t.1,.int (t.2.1:Nat),.int t.2.2]
def Q7 (r:Room):List Fs:=(ZD r).map fun st=>(st,maskOf r st,placesOf r st)
abbrev Fe:=Nat×Nat×Int
def feD (t:Fe):D:=.tup [.int (t.1:Nat),.int (t.2.1:Nat),.int t.2.2]
def endOf (r:Room)(st:List Str):Nat:=(namesOf r.rows).idxOf (st.getLastD (Str.ofString ""))
def Zg2 (r:Room):List Fe:=Wi feD ((Q7 r).map fun t=>(endOf r t.1,t.2.1,t.2.2))
def Yd (r:Room)(b:Addr):List (Str×D):=[("room",Zj r),("names",.lst ((namesOf r.rows).map .str)),("figures",.obj b),("stands",.lst ((Q7 r).map fsD)),("by_ends",.lst ((Zg2 r).map feD))]
section
variable {S:Za}{ρ:PEnv}{tg tl:Tg}{t:Fs}{e:Fe}{r:Room}{b:Addr}
@[simp] theorem Zsz:setV (.tp tg tl) (fsD t) ρ=ZJ (.tp tg tl) [Zd t.1,.int (t.2.1:Nat),.int t.2.2] ρ:=by unfold fsD;rw[YS]
@[simp] theorem Zsy:setV (.tp tg tl) (feD e) ρ=ZJ (.tp tg tl) [.int (e.1:Nat),.int (e.2.1:Nat),.int e.2.2] ρ:=by unfold feD;rw[YS]
@[simp] theorem ZqE:Zy (fsD t)=false:=nr rfl
@[simp] theorem ZqD:Zy (feD e)=false:=nr rfl
theorem lkNe {a b:Str}{d:D}{l:List (Str×D)}(h:(a == b)=false):((b,d) :: l).lookup a=l.lookup a:=by rw[List.lookup,h]
theorem lkEq {a:Str}{d:D}{l:List (Str×D)}:((a,d) :: l).lookup a=some d:=by rw[List.lookup,beq_self_eq_true]
@[simp] theorem Zug:(Yd r b).lookup ("room" : Str)=some (Zj r):=lkEq
@[simp] theorem ZrR:(Yd r b).lookup ("names" : Str)=some (.lst ((namesOf r.rows).map .str)):=by
 unfold Yd;rw[lkNe (by decide +kernel)];exact lkEq
@[simp] theorem Zpt:(Yd r b).lookup ("figures" : Str)=some (.obj b):=by
 unfold Yd;rw[lkNe (by decide +kernel),lkNe (by decide +kernel)];exact lkEq
@[simp] theorem ZqU:(Yd r b).lookup ("stands" : Str)=some (.lst ((Q7 r).map fsD)):=by
 unfold Yd;rw[lkNe (by decide +kernel),lkNe (by decide +kernel),lkNe (by decide +kernel)];exact lkEq
@[simp] theorem Zps:(Yd r b).lookup ("by_ends" : Str)=some (.lst ((Zg2 r).map feD)):=by
 unfold Yd;rw[lkNe (by decide +kernel),lkNe (by decide +kernel),lkNe (by decide +kernel),lkNe (by decide +kernel)];exact lkEq
@[simp] theorem Zpu:(Yd r b).lookup ("mask_of" : Str)=none:=by
 unfold Yd;rw[lkNe (by decide +kernel),lkNe (by decide +kernel),lkNe (by decide +kernel),lkNe (by decide +kernel),lkNe (by decide +kernel)];rfl
@[simp] theorem ZrS:(Yd r b).lookup ("taken" : Str)=none:=by
 unfold Yd;rw[lkNe (by decide +kernel),lkNe (by decide +kernel),lkNe (by decide +kernel),lkNe (by decide +kernel),lkNe (by decide +kernel)];rfl
@[simp] theorem Zuf:(Yd r b).lookup ("free" : Str)=none:=by
 unfold Yd;rw[lkNe (by decide +kernel),lkNe (by decide +kernel),lkNe (by decide +kernel),lkNe (by decide +kernel),lkNe (by decide +kernel)];rfl
end
structure ZvC (T:Vw.Tab):Prop where
 room:T.cfg.fl "Floor" "room" = true
 names:T.cfg.fl "Floor" "names" = true
 figures:T.cfg.fl "Floor" "figures" = true
 stands:T.cfg.fl "Floor" "stands" = true
 by_ends:T.cfg.fl "Floor" "by_ends" = true
 mask_of:T.cfg.me "Floor" "mask_of" = true
 taken:T.cfg.me "Floor" "taken" = true
 free:T.cfg.me "Floor" "free" = true
section
variable {T:Vw.Tab}
abbrev Tk:=Nat×Int×Int
def tkD (t:Tk):D:=.tup [.int (t.1:Nat),.int t.2.1,.int t.2.2]
@[simp] theorem ZsB {tg tl:Tg}{t:Tk}{ρ:PEnv}:setV (.tp tg tl) (tkD t) ρ=ZJ (.tp tg tl) [.int (t.1:Nat),.int t.2.1,.int t.2.2] ρ:=by unfold tkD;rw[YS]
def ZwD (r:Room)(x:Shut):Tk:=(ZjR r x.t,x.b,x.s)
end
section
variable {T:Vw.Tab}
abbrev Old:=List Seat
def oldD (o:Old):D:=.tup (o.map YJ)
@[simp] theorem ZsF {S:Za}{o:Old}:srcD .it S [oldD o]=some (o.map YJ):=nr rfl
@[simp] theorem Zo6 {o:Old}:Zy (oldD o)=false:=nr rfl
def Zib:Option Int→D
 | none=>.non
 | some k=>.int k
abbrev Ld:=List Str×Option Int
def ldD (t:Ld):D:=.tup [Zd t.1,Zib t.2]
@[simp] theorem ZsA {tg tl:Tg}{t:Ld}{ρ:PEnv}:setV (.tp tg tl) (ldD t) ρ=ZJ (.tp tg tl) [Zd t.1,Zib t.2] ρ:=by unfold ldD;rw[YS]
def ZvK (sp:Option Int):Bool:=match sp with
 | none=>true
 | some k=>decide (0≤k)
theorem ZaI {S:Za}{st:List Str}{sts:List (List Str)}:inD S (Zd st) (.lst (sts.map Zd))=some (decide (st∈sts)):=by
 rw[ZcA (ys:=sts.map Zd) rfl rfl (fun _ h=>by cases h) (show(Zd st).nb=true from Zdw st) (fun y hy=>by obtain⟨z,_,rfl⟩:=List.mem_map.mp hy;exact(show(Zd z).nb=true from Zdw z)) (by have:=XG st;omega)]
 congr 1
 rw[decide_eq_decide]
 constructor
 · intro h
   obtain⟨z,hz,e⟩:=List.mem_map.mp h
   rw[← Za2 _ _ e];exact hz
 · exact fun h=>List.mem_map_of_mem h
end
section
variable {T:Vw.Tab}
end
end Vw
namespace Vw
open PySem Sw
section
variable {T:Vw.Tab}
abbrev ZX (r:Room):List (List Str):=ZD r
def W0 (T:Vw.Tab):Prop:=∀(n:Nat) (w:W) (r:Room),Zv r→∀Q:QW,Q (eL Zd (ZX r)) w→cX T n "" "_law_stands" [Zj r] w Q
theorem ZdP (h:Base T "_law_stands" (.R Qp)):W0 T:=fun n w r ok Q q=>(VU T n).symm▸h.eq.mpr ⟨_,.mk r ok,q⟩
end
end Vw
namespace Vw
open PySem Sw
theorem Zjv (a b:Int):(rngZ a b).length=(b - a).toNat:=by unfold rngZ;simp
def memB {α:Type}[DecidableEq α](x:α)(ys:List α):Bool:=decide (x∈ys)
@[simp] theorem ZrU {α:Type}[DecidableEq α]{x:α}{ys:List α}:memB x ys=true↔x∈ys:=by unfold memB;rw[decide_eq_true_eq]
theorem Zuh {α:Type}[DecidableEq α]{x:α}{ys:List α}:memB x ys=decide (x∈ys):=rfl
section
variable {S:Za}{α:Type}{f:α→D}{n:Nat}
def Y1 (x:Str)(d:D):Bool:=match d with | .str y=>decide (x=y) | _=>false
theorem Zk1 {xs:List α}:eL f xs=eL id (xs.map f):=by show D.lst _=D.lst ((xs.map f).map id);rw[List.map_id]
theorem ZnZ {b:Bool}:truD S (.bl b)=some b:=rfl
end
section
variable {G:Cfg}{C:CT}{md:Md}{ρ:PEnv}{w:W}{a b:M}{s t:Bool}
end
section
variable {G:Cfg}{C:CT}{md:Md}{ρ:PEnv}{w:W}{a b:M}{as:Ms}{d z:D}{ds:List D}{f:Addr×Room}{S:Za}
end
end Vw
namespace Vw
open PySem Sw
def PT (α:Type):Type:=W→(α→W→Prop)→Prop
abbrev eScr (ns:List Int):D:=.scr (ns.map .int)
namespace PT
def ret {α:Type}(v:α):PT α:=fun w Q=>Q v w
def bind {α β:Type}(X:PT α)(Y:α→PT β):PT β:=fun w Q=>X w fun v w'=>Y v w' Q
def as {α:Type}(ok:Prop)(X:PT α):PT α:=fun w Q=>ok∧X w Q
def dr (p:Addr)(m:Int):PT Int:=fun w Q=>w.pen=some p∧0<m∧m<2 ^ 64∧1≤w.b∧∀r,0≤r→r<m→Q r { w with b:=w.b - 1 }
def pen (ns:List Int):PT Addr:=fun w Q=>ns.length≤63∧w.pen=none∧∀p,w.S p=none→Q p { w with pen:=some p,b:=2 ^ 40 }
def fold {α σ:Type}(step:σ→α→PT σ):List α→σ→PT σ
 | [],s=>ret s
 | x :: r,s=>bind (step s x) fun s'=>fold step r s'
def loop {α σ τ:Type}(step:σ→α→PT (Sum τ σ)):List α→σ→PT (Sum τ σ)
 | [],s=>ret (.inr s)
 | x :: r,s=>bind (step s x) fun z=>sc z (fun t=>ret (.inl t)) fun s'=>loop step r s'
def mapM {α β:Type}(f:α→PT β):List α→PT (List β)
 | []=>ret []
 | x :: r=>bind (f x) fun y=>bind (mapM f r) fun ys=>ret (y :: ys)
def filM {α β:Type}(f:α→PT (Option β)):List α→PT (List β)
 | []=>ret []
 | x :: r=>bind (f x) fun y=>bind (filM f r) fun ys=>ret (y.toList++ys)
end PT
def JP {α:Type}(G:Cfg)(C:CT)(md:Md)(e:M)(ρ:PEnv)(f:α→D)(X:PT α):Prop:=∀(w:W)(Q:QW)(P:α→W→Prop),X w P→(∀v w',P v w'→Q (f v) w')→xE G C md e ρ w Q
def JPs {α:Type}(G:Cfg)(C:CT)(md:Md)(es:Ms)(ρ:PEnv)(fs:α→List D)(X:PT α):Prop:=∀(w:W)(Q:List D→W→Prop)(P:α→W→Prop),X w P→(∀v w',P v w'→Q (fs v) w')→xEs G C md es ρ w Q
section
variable {α β γ:Type}{G:Cfg}{C:CT}{md:Md}{ρ:PEnv}{a b c e:M}{as cs:Ms}{f:α→D}{g:β→D}{k:γ→D}{X:PT α}{Y:PT β}{Z:PT γ}{i:Nat}
theorem Yf (v:α)(h:∀w,J G C md e ρ w (f v)):JP G C md e ρ f (.ret v):=fun w Q P q m=>h w Q (m _ _ q)
theorem Yq (ok:Prop)(v:α)(h:ok→∀w,J G C md e ρ w (f v)):JP G C md e ρ f (.as ok (.ret v)):=fun w Q P q m=>h q.1 w Q (m _ _ q.2)
theorem Zpo {X':PT α}(h:JP G C md e ρ f X)(q:X=X'):JP G C md e ρ f X':=q▸h
theorem Zne (h:JP G C md e ρ f X):JP G C md e ρ id (X.bind fun x=>.ret (f x)):=fun w Q P q m=>h w _ _ q fun v w' p=>m (f v) w' p
theorem W2 {o:Operator}(ok:α→β→Prop)(op:α→β→γ)(ha:JP G C .op a ρ f X)(hb:JP G C .op b ρ g Y)(h:∀S x y,ok x y→binD o S (f x) (g y)=some (k (op x y))):JP G C md (.bin o a b) ρ k (X.bind fun x=>Y.bind fun y=>.as (ok x y) (.ret (op x y))):=fun w Q P q m=>by
 rw[xE]
 exact ha w _ _ q fun x w1 p1=>hb w1 _ _ p1 fun y w2 p2=>by rw[h _ _ _ p2.1];exact m _ _ p2.2
theorem Zfc {o:Operator}(op:α→β→γ)(ha:JP G C .op a ρ f X)(hb:JP G C .op b ρ g Y)(h:∀S x y,binD o S (f x) (g y)=some (k (op x y))):JP G C md (.bin o a b) ρ k (X.bind fun x=>Y.bind fun y=>.ret (op x y)):=fun w Q P q m=>by
 rw[xE]
 exact ha w _ _ q fun x w1 p1=>hb w1 _ _ p1 fun y w2 p2=>by rw[h];exact m _ _ p2
theorem X1:JPs G C md .nil ρ (fun _:Unit=>[]) (.ret ()):=fun w Q P q m=>by rw[xEs];exact m _ _ q
theorem Z4 {fs:β→List D}{Y:PT β}(ha:JP G C md a ρ f X)(h:JPs G C md as ρ fs Y):JPs G C md (.cons a as) ρ (fun z:α×β=>f z.1 :: fs z.2) (X.bind fun x=>Y.bind fun y=>.ret (x,y)):=fun w Q P q m=>by
 rw[xEs]
 exact ha w _ _ q fun x w1 p1=>h w1 _ _ p1 fun y w2 p2=>m (x,y) _ p2
theorem Zho {fs:α→List D}(n:Nat)(u:α→β)(h:JPs G C .ex as ρ fs X)(hl:∀x,(fs x).length=n)(hn:n≤sizeLine)(hu:∀x,D.tup (fs x)=g (u x)):JP G C md (.tup as) ρ g (X.bind fun x=>.ret (u x)):=fun w Q P q m=>by
 rw[xE]
 exact h w _ _ q fun x w1 p1=>⟨by rw[hl];exact hn,by rw[hu];exact m _ _ p1⟩
theorem Zdl {fs:α→List D}(n:Nat)(u:α→β)(h:JPs G C .ex as ρ fs X)(hl:∀x,(fs x).length=n)(hn:n≤sizeLine)(hu:∀x,D.lst (fs x)=g (u x)):JP G C md (.lst as) ρ g (X.bind fun x=>.ret (u x)):=fun w Q P q m=>by
 rw[xE]
 exact h w _ _ q fun x w1 p1=>⟨by rw[hl];exact hn,by rw[hu];exact m _ _ p1⟩
theorem Zhn {fs:α→List D}{bf:Bi}(u:α→β)(h:JPs G C (biMd bf) as ρ fs X)(hu:∀S x,biD bf S (fs x)=some (g (u x))):JP G C md (.bi bf as) ρ g (X.bind fun x=>.ret (u x)):=fun w Q P q m=>by
 rw[xE]
 exact h w _ _ q fun x w1 p1=>by rw[hu];exact m _ _ p1
theorem Qu (ok:α→β→Prop)(u:α→β→γ)(ha:JP G C .op a ρ f X)(hb:JP G C .ex b ρ g Y)(h:∀S x y,ok x y→ixOf S (f x) (g y)=some (k (u x y))):JP G C md (.ix a b) ρ k (X.bind fun x=>Y.bind fun y=>.as (ok x y) (.ret (u x y))):=fun w Q P q m=>by
 rw[xE]
 exact ha w _ _ q fun x w1 p1=>hb w1 _ _ p1 fun y w2 p2=>by rw[h _ _ _ p2.1];exact m _ _ p2.2
theorem Zk9 {Y:PT Int}(ok:α→Int→Prop)(u:α→Int→γ)(ha:JP G C .op a ρ f X)(hb:JP G C .ex b ρ D.int Y)(h:∀S x y,ok x y→slOf S (f x) (some y) none=some (k (u x y))):JP G C md (.sl true false a (.cons b .nil)) ρ k (X.bind fun x=>Y.bind fun y=>.as (ok x y) (.ret (u x y))):=fun w Q P q m=>by
 rw[xE]
 refine ha w _ _ q fun x w1 p1=>?_
 rw[xIs]
 refine hb w1 _ _ p1 fun y w2 p2=>?_
 show xIs _ _ _ _ _ _
 rw[xIs]
 show optD _ _
 rw[h _ _ _ p2.1];exact m _ _ p2.2
theorem Qn {α β:Type}{f:α→D}{g:β→D}{step:D→W→(Option D→W→Prop)→Prop}{st:α→PT (Option β)}{Q:List D→W→Prop}:∀(xs:List α)(acc:List β)(w:W)(P:List β→W→Prop),acc.length+xs.length≤sizeLine→
  (∀x∈xs,∀w (K:Option D→W→Prop) (R:Option β→W→Prop),st x w R→(∀v w',R v w'→K (v.map g) w')→step (f x) w K)→(PT.filM st xs).bind (fun ys=>.ret (acc++ys)) w P→(∀v w',P v w'→Q (v.map g) w')→Y8 step (xs.map f) (acc.map g) w Q
 | [],acc,w,P,_,_,q,m=>by rw[List.map_nil,Y8];refine m _ _ ?_;have:=(show P (acc++[]) w from q);rwa [List.append_nil] at this
 | x :: r,acc,w,P,hl,hs,q,m=>by
   rw[List.map_cons,Y8]
   refine hs x (by simp) w _ _ q fun v w1 p1=>?_
   cases v with
   | none=>exact Qn r acc w1 P (by simp at hl;omega) (fun y hy=>hs y (List.mem_cons_of_mem _ hy)) p1 m
   | some y=>
     refine⟨by simp at hl ⊢;omega,?_⟩
     have:=Qn r (acc++[y]) w1 P (by simp at hl ⊢;omega) (fun y hy=>hs y (List.mem_cons_of_mem _ hy)) (by
      show PT.filM st r w1 _
      have p1:PT.filM st r w1 fun ys w'=>P (acc++([y]++ys)) w':=p1
      simpa [PT.ret] using p1) m
     simpa using this
def CB {α:Type}(G:Cfg)(C:CT)(cs:Ms)(e:M)(ρ:PEnv)(g:α→D)(X:PT (Option α)):Prop:=∀(w:W)(K:Option D→W→Prop)(R:Option α→W→Prop),X w R→(∀v w',R v w'→K (v.map g) w')→xTs G C cs ρ w fun t w'=>if t=true then xE G C .ex e ρ w' fun y w''=>K (some y) w'' else K none w'
theorem Zmj (h:JP G C .ex e ρ f X):CB G C .nil e ρ f (X.bind fun y=>.ret (some y)):=fun w K R q m=>by
 rw[xTs]
 show if true=true then _ else _
 rw[if_pos rfl]
 exact h w _ _ q fun v w' p=>m _ _ p
theorem Znf {α β:Type}{s:Src}{own:List Nat}{tg:Tg}{cs:Ms}{γ:Type}{fs:γ→List D}{X:PT γ}(hg:G.gc=true)(f:α→D)(g:β→D)(xs:γ→List α)(st:α→PT (Option β))(ok:γ→Prop)(ha:JPs G C (Vg s) as ρ fs X)(hs:∀S z,ok z→srcD s S (fs z)=some ((xs z).map f))(hl:∀z,ok z→(xs z).length≤sizeLine)
  (hb:∀x,∃ρ',setV tg (f x) (Yt ρ own)=some ρ'∧CB G C cs e ρ' g (st x)) :
  JP G C md (.comp s as own tg cs e) ρ (eL g) (X.bind fun z=>.as (ok z) (PT.filM st (xs z))):=fun w Q P q m=>by
 rw[xE]
 refine ha w _ _ q fun z w1 p1=>?_
 rw[hs _ _ p1.1]
 show if G.gc=true then _ else _
 rw[if_pos hg]
 refine Qn (f:=f) (g:=g) (st:=st) (xs z) [] w1 P (by simpa using hl z p1.1) (fun x hx w K R r k=>?_) p1.2 (fun v w' p=>⟨WX (hs _ _ p1.1),m _ _ p⟩)
 obtain⟨ρ',e1,h1⟩:=hb x
 refine⟨WX (hs _ _ p1.1),?_⟩
 rw[e1]
 exact h1 w K R r k
theorem Zda {α β:Type}(f:α→PT β):∀xs:List α,PT.filM (fun x=>(f x).bind fun y=>.ret (some y)) xs=PT.mapM f xs
 | []=>rfl
 | x :: r=>by
   rw[PT.filM,PT.mapM,Zda f r];rfl
theorem Zng {α β:Type}{s:Src}{own:List Nat}{tg:Tg}{γ:Type}{fs:γ→List D}{X:PT γ}(hg:G.gc=true)(f:α→D)(g:β→D)(xs:γ→List α)(st:α→PT β)(ok:γ→Prop)(ha:JPs G C (Vg s) as ρ fs X)(hs:∀S z,ok z→srcD s S (fs z)=some ((xs z).map f))(hl:∀z,ok z→(xs z).length≤sizeLine)
  (hb:∀x,∃ρ',setV tg (f x) (Yt ρ own)=some ρ'∧JP G C .ex e ρ' g (st x)) :
  JP G C md (.comp s as own tg .nil e) ρ (eL g) (X.bind fun z=>.as (ok z) (PT.mapM st (xs z))):=by
 have:=Znf (md:=md) hg f g xs (fun x=>(st x).bind fun y=>.ret (some y)) ok ha hs hl fun x=>by
  obtain⟨ρ',a,b⟩:=hb x
  exact⟨ρ',a,Zmj b⟩
 refine Zpo this ?_
 funext w Q
 show X w _=X w _
 simp only[Zda]
theorem Zab {F:Str}{ds:List D}{Y:PT β}(ok:Prop)(h:ok→∀w,Js G C .ex as ρ w ds)(hc:∀(w:W) (Q:QW) (P:β→W→Prop),Y w P→(∀v w',P v w'→Q (g v) w')→C "" F ds w Q):JP G C md (.call F as) ρ g (.as ok Y):=fun w Q P q m=>by
 rw[xE]
 exact h q.1 w _ (hc w Q P q.2 m)
theorem ZI {F:Str}{ds:List D}{Y:PT β}(h:∀w,Js G C .ex as ρ w ds)(hc:∀(w:W) (Q:QW) (P:β→W→Prop),Y w P→(∀v w',P v w'→Q (g v) w')→C "" F ds w Q):JP G C md (.call F as) ρ g Y:=fun w Q P q m=>by
 rw[xE]
 exact h w _ (hc w Q P q m)
end
end Vw
namespace Vw
open PySem Sw
structure JQ {τ:Type}(G:Cfg)(C:CT)(lin:List Nat)(ks:List Cs)(ρ:PEnv)(F:τ→Out)(X:PT τ):Prop where
 out:∀(w:W)(E:Xc)(P:τ→W→Prop),X w P→(∀v w',P v w'→(F v).At E w')→run G C lin ks E ρ w
instance {τ:Type} {G:Cfg} {C:CT} {lin:List Nat} {ks:List Cs} {ρ:PEnv} {F:τ→Out} {X:PT τ}:CoeFun (JQ G C lin ks ρ F X) (fun _=>∀(w:W)(E:Xc)(P:τ→W→Prop),X w P→(∀v w',P v w'→(F v).At E w')→run G C lin ks E ρ w):=⟨JQ.out⟩
section
variable {α β τ:Type}{G:Cfg}{C:CT}{lin:List Nat}{ρ ρ':PEnv}{a b c e:M}{as:Ms}{f:α→D}{g:β→D}{i:Nat}{r p q:Cs}{ks:List Cs}{F:τ→Out}{tg:Tg}{X:PT α}{Z:PT τ}
theorem V2 {Z':PT τ}(h:JQ G C lin ks ρ F Z)(q:Z=Z'):JQ G C lin ks ρ F Z':=q▸h
theorem ZC (e:ρ=ρ')(h:JQ G C lin ks ρ' F Z):JQ G C lin ks ρ F Z:=e▸h
theorem Xk (h:JQ G C lin ks ρ F Z):JQ G C lin (.nil :: ks) ρ F Z:=.mk fun w E P q m=>by
 show xCs G C lin .nil _ ρ w
 rw[xCs];exact h w E P q m
theorem Zdm (v:τ)(h:F v=.nx ρ):JQ G C lin [] ρ F (.ret v):=.mk fun w E P q m=>by
 have:=m v w q;rw[h] at this;exact this
theorem Z1 (h0:Zz e=false)(h:JP G C .ex e ρ f X){ρ':α→PEnv}(ht:∀x,setV tg (f x) ρ=some (ρ' x)){Y:α→PT τ}(hr:∀x,JQ G C lin (r :: ks) (ρ' x) F (Y x)):JQ G C lin (.cons (.asg tg e) r :: ks) ρ F (X.bind Y):=.mk fun w E P q m=>by
 show xCs G C lin (.cons (.asg tg e) r) _ ρ w
 rw[xCs]
 have key:xE G C .ex e ρ w fun x w1=>optE (setV tg x ρ) fun ρ'=>xCs G C lin r { E with nx:=run G C lin ks E } ρ' w1:=h w _ _ q fun x w1 p1=>by rw[ht];exact hr x w1 E P p1 m
 cases e <;> first | (cases h0;done) | (rw[xC] <;> first | exact key | (intro _ _ h1 h2;cases h2))
theorem Y2 (u:α→τ)(hf:frzAt e ρ=none)(h:JP G C .ex e ρ f X)(hu:∀x,F (u x)=.ret (f x)):JQ G C lin (.cons (.ret e) r :: ks) ρ F (X.bind fun x=>.ret (u x)):=.mk fun w E P q m=>by
 show xCs G C lin (.cons (.ret e) r) _ ρ w
 rw[xCs,xC,hf]
 exact h w _ _ q fun x w1 p1=>by have:=m _ _ p1;rw[hu] at this;exact this
theorem Zbl {is:List Nat}(hr:JQ G C lin (r :: ks) (Yt ρ is) F Z):JQ G C lin (.cons (.wipe is) r :: ks) ρ F Z:=.mk fun w E P q m=>by
 show xCs G C lin (.cons (.wipe is) r) _ ρ w
 rw[xCs,xC];exact hr w E P q m
theorem Zke {α σ:Type}{gd:W→Prop}{turn:D→PEnv→W→(PEnv→W→Prop)→Prop}{Q:PEnv→W→Prop}{f:α→D}{env:σ→PEnv}{step:σ→α→PT σ}(hg:∀w,gd w):∀(xs:List α)(s:σ)(w:W)(P:σ→W→Prop),
  (∀s x,x∈xs→∀(w:W)(N:PEnv→W→Prop)(R:σ→W→Prop),step s x w R→(∀s' w',R s' w'→N (env s') w')→turn (f x) (env s) w N)→PT.fold step xs s w P→(∀s' w',P s' w'→Q (env s') w')→xFor gd turn (xs.map f) (env s) w Q
 | [],s,w,P,_,q,m=>by rw[List.map_nil,xFor];exact⟨hg w,m _ _ q⟩
 | x :: r,s,w,P,ht,q,m=>by
   rw[List.map_cons,xFor]
   exact⟨hg w,ht s x (by simp) w _ _ q fun s' w' p=>Zke hg r s' w' P (fun s y hy=>ht s y (List.mem_cons_of_mem _ hy)) p m⟩
theorem Zkf {α σ κ:Type}{gd:W→Prop}{turn:D→PEnv→W→(PEnv→W→Prop)→Prop}{Q:PEnv→W→Prop}{B:κ→W→Prop}{f:α→D}{env:σ→PEnv}{step:σ→α→PT (Sum κ σ)}(hg:∀w,gd w):∀(xs:List α)(s:σ)(w:W)(P:Sum κ σ→W→Prop),
  (∀s x,x∈xs→∀(w:W)(N:PEnv→W→Prop)(R:Sum κ σ→W→Prop),step s x w R→(∀z w',R z w'→sc z (fun t=>B t w') (fun s'=>N (env s') w'))→turn (f x) (env s) w N)→PT.loop step xs s w P→(∀z w',P z w'→sc z (fun t=>B t w') (fun s'=>Q (env s') w'))→xFor gd turn (xs.map f) (env s) w Q
 | [],s,w,P,_,q,m=>by rw[List.map_nil,xFor];exact⟨hg w,m _ _ q⟩
 | x :: r,s,w,P,ht,q,m=>by
   rw[List.map_cons,xFor]
   refine⟨hg w,ht s x (by simp) w _ _ q fun z w' p=>?_⟩
   cases z with
   | inl t=>exact m (.inl t) w' p
   | inr s'=>exact Zkf hg r s' w' P (fun s y hy=>ht s y (List.mem_cons_of_mem _ hy)) p m
theorem Zi5 {σ:Type}{s:Src}{ds:List D}(f:α→D)(env:σ→PEnv)(step:σ→α→PT σ)(xs:List α)(s0:σ)(ok:Prop)(ha:ok→∀w,Js G C .ex as ρ w ds)(hs:ok→∀w:W,srcD s w.S ds=some (xs.map f))(he:ρ=env s0)
  (hb:∀s x,∃ρ',setV tg (f x) (env s)=some ρ'∧JQ G C lin [p] ρ' (fun s=>.nx (env s)) (step s x)) {Y:σ→PT τ} (hr:∀s,JQ G C lin (r :: ks) (env s) F (Y s)) :
  JQ G C lin (.cons (.for s as tg p) r :: ks) ρ F (.as ok ((PT.fold step xs s0).bind Y)):=.mk fun w E P q m=>by
 subst he
 show xCs G C lin (.cons (.for s as tg p) r) _ (env s0) w
 rw[xCs,xC]
 refine ha q.1 w _ ?_
 have hs:=hs q.1
 rw[hs w]
 refine Zke (step:=step) (fun w=>WX (hs w)) xs s0 w _ (fun s x hx w N R h k=>?_) q.2 fun s' w' p=>hr s' w' E P p m
 obtain⟨ρ',e1,h1⟩:=hb s x
 rw[e1]
 exact h1 w { E with nx:=N } R h k
theorem Zdn {σ κ:Type}{s:Src}{ds:List D}(f:α→D)(env:σ→PEnv)(fr:κ→D)(step:σ→α→PT (Sum κ σ))(xs:List α)(s0:σ)(u:κ→τ)(ok:Prop)(hu:∀t,F (u t)=.ret (fr t))(ha:ok→∀w,Js G C .ex as ρ w ds)(hs:ok→∀w:W,srcD s w.S ds=some (xs.map f))(he:ρ=env s0)
  (hb:∀s x,∃ρ',setV tg (f x) (env s)=some ρ'∧JQ G C lin [p] ρ' (fun z=>sc z (fun t=>Out.ret (fr t)) (fun s=>.nx (env s))) (step s x)) {Y:σ→PT τ} (hr:∀s,JQ G C lin (r :: ks) (env s) F (Y s)) :
  JQ G C lin (.cons (.for s as tg p) r :: ks) ρ F (.as ok ((PT.loop step xs s0).bind fun z=>sc z (fun t=>.ret (u t)) Y)):=.mk fun w E P q m=>by
 subst he
 show xCs G C lin (.cons (.for s as tg p) r) _ (env s0) w
 rw[xCs,xC]
 refine ha q.1 w _ ?_
 have hs:=hs q.1
 rw[hs w]
 refine Zkf (step:=step) (B:=fun t w'=>E.rt (fr t) w') (fun w=>WX (hs w)) xs s0 w _ (fun s x hx w N R h k=>?_) q.2 fun z' w' p=>?_
 · obtain⟨ρ',e1,h1⟩:=hb s x
   rw[e1]
   refine h1 w { E with nx:=N } R h fun v w' r=>?_
   have:=k v w' r
   cases v with
   | inl t=>exact this
   | inr s'=>exact this
 · cases z' with
   | inl t=>have:=m (u t) w' p;rw[hu] at this;exact this
   | inr s'=>exact hr s' w' E P p m
theorem WH {U V:PT τ}(ok:Prop)(t:Bool){d:D}(hc:ok→∀w,J G C .op c ρ w d)(h:∀w:W,truD w.S d=some t)(hp:JQ G C lin (p :: r :: ks) ρ F U)(hq:JQ G C lin (q :: r :: ks) ρ F V):JQ G C lin (.cons (.ifs c p q) r :: ks) ρ F (.as ok (if t=true then U else V)):=.mk fun w E P z m=>by
 show xCs G C lin (.cons (.ifs c p q) r) _ ρ w
 rw[xCs,xC]
 refine hc z.1 w _ ?_
 rw[h]
 show if t=true then _ else _
 have p1:(if t=true then U else V) w P:=z.2
 cases t with
 | true=>rw[if_pos rfl] at p1 ⊢;exact hp w E P p1 m
 | false=>rw[if_neg (by decide)] at p1 ⊢;exact hq w E P p1 m
theorem sq_of {T:Vw.Tab}{cl fn:Str}{pd:PDef}{n:Nat}{ds:List D}{f:τ→D}(hd:T.df cl fn=some pd)(hl:ds.length=pd.ps)(hg:pd.fg=false)(h:JQ { T.cfg with gc:=pd.gc } (cX T n) pd.lin [pd.body] (Y7 pd.n ds) (fun v=>.ret (f v)) Z)(w:W)(Q:QW)(P:τ→W→Prop)(z:Z w P)(m:∀v w',P v w'→Q (f v) w'):cX T (n+1) cl fn ds w Q:=by
 rw[VU] at h ⊢
 have e:cT T (n+1) cl fn ds w Q=(match T.df cl fn with
   | some d=>ds.length=d.ps∧xCs { T.cfg with gc:=d.gc } (cT T n) d.lin d.body { nx:=fun _ w'=>fgQ d.fg w Q .non w',rt:=fgQ d.fg w Q } (Y7 d.n ds) w
   | none=>match T.bs fn with
     | some b=>cl = "" ∧bsV b ds w Q
     | none=>False):=rfl
 rw[e,hd]
 refine⟨hl,h w { nx:=fun _ w'=>fgQ pd.fg w Q .non w',rt:=fgQ pd.fg w Q } P z fun v w' p=>?_⟩
 show fgQ pd.fg w Q (f v) w'
 unfold fgQ
 rw[if_neg (by rw[hg];decide)]
 exact m _ _ p
abbrev Zs (p:Addr)(m:Int):PT Int:=PT.dr p m
def YG (T:Vw.Tab):Prop:=∀(n:Nat) (p:Addr) (m:Int) (w:W) (Q:QW) (P:Int→W→Prop),Zs p m w P→(∀v w',P v w'→Q (D.int v) w')→cX T n "" "_law_draw" [D.obj p,D.int m] w Q
theorem Zgn {T:Vw.Tab}(h:Base T "_law_draw" .dr):YG T:=fun n p m w Q P z k=>by
 rw[VU,h.eq]
 exact⟨p,m,rfl,z.1,z.2.1,z.2.2.1,z.2.2.2.1,fun r h1 h2=>k _ _ (z.2.2.2.2 r h1 h2)⟩
abbrev UX (ns:List Int):PT Addr:=PT.pen ns
def UB (T:Vw.Tab):Prop:=∀(n:Nat) (ns:List Int) (w:W) (Q:QW) (P:Addr→W→Prop),UX ns w P→(∀v w',P v w'→Q (D.obj v) w')→cX T n "" "_law_pen" [eScr ns] w Q
theorem ZhZ {T:Vw.Tab}(h:Base T "_law_pen" .pn):UB T:=fun n ns w Q P z k=>by
 rw[VU,h.eq]
 exact⟨ns,rfl,z.1,z.2.1,fun p hp=>k _ _ (z.2.2 p hp)⟩
theorem ZpF {T:Vw.Tab}{n:Nat}{fn:Str}{c:Nat}{pre:List D→Prop}{R:List D→D→Prop}(h:Base T fn (.P c pre R)){p:Addr}{as:List D}{w:W}{Q:QW}(hp:w.pen=some p)(hc:c≤w.b)(pr:pre as)(k:∀d,R as d→Q d { w with b:=w.b - c }):cX T n "" fn (.obj p :: as) w Q:=by
 rw[VU,h.eq]
 exact⟨p,as,rfl,hp,hc,pr,k⟩
def WT (p:Addr)(m:Int):PT Room:=fun w Q=>w.pen=some p∧60≤w.b∧(1≤m∧m≤8)∧∀r:Room,Zv r→((namesOf r.rows).length:Int)≤m→Q r { w with b:=w.b - 60 }
def VO (T:Vw.Tab):Prop:=∀(n:Nat) (p:Addr) (m:Int) (w:W) (Q:QW) (P:Room→W→Prop),WT p m w P→(∀v w',P v w'→Q (Zj v) w')→cX T n "" "_law_room" [D.obj p,D.int m] w Q
theorem Zgo {T:Vw.Tab}(h:Base T "_law_room" (.P 60 (fun as=>∃m:Int,as=[.int m]∧1≤m∧m≤8) Zcv)):VO T:=fun n p m w Q P z k=>
 ZpF h z.1 z.2.1 ⟨m,rfl,z.2.2.1⟩ fun d hd=>by
  generalize e:[D.int m]=ds at hd
  cases hd with | mk m2 r h1 h2=>
  injection e with e _;injection e with e;subst e
  exact k r _ (z.2.2.2 r h1 h2)
end
namespace PT
def getC (a:Addr):PT Int:=fun w Q=>∃k:Int,w.S a=some (.lst [.int k])∧Q k w
def putC (a:Addr)(k:Int):PT Unit:=fun w Q=>(∃j:Int,w.S a=some (.lst [.int j]))∧Q () { w with S:=sput w.S a (.lst [.int k]) }
def newC (k:Int):PT Addr:=fun w Q=>∀p,w.S p=none→w.pen≠some p→Q p { w with S:=sput w.S p (.lst [.int k]) }
end PT
section
variable {α τ:Type}{G:Cfg}{C:CT}{lin:List Nat}{md:Md}{ρ:PEnv}{e:M}{i:Nat}{r:Cs}{ks:List Cs}{F:τ→Out}{X:PT Int}{a:Addr}
end
end Vw
namespace Vw
open PySem Sw
instance:Inhabited D:=⟨.non⟩
def V0:Za:=fun _=>none
theorem ZlB {i j:Nat}{a b:D}{ρ:PEnv}:setV (.tp (.nm i) (.tp (.nm j) .nil)) (.tup [a,b]) ρ=some ((ρ.set i (some (false,a))).set j (some (false,b))):=by
 rw[setV,ZJ,ZK];dsimp only;rw[ZJ,ZK];dsimp only;rw[ZJ]
def nO:D→Bool
 | .obj _=>false
 | .scr _=>false
 | _=>true
def isaV (k:Sw.Ty)(d:D):Bool:=(isaD k V0 d).getD false
def lenV (d:D):Int:=match biD .len V0 [d] with | some (.int i)=>i | _=>0
def Wx (d:D):Prop:=(biD .len V0 [d]).isSome=true
def ixV (d i:D):D:=(ixOf V0 d i).getD .non
def ixOk (d i:D):Prop:=(ixOf V0 d i).isSome=true
def cmpV (o:CmpOp)(x y:D):Bool:=(cmpB o V0 x y).getD false
def VV (o:CmpOp)(x y:D):Prop:=(cmpB o V0 x y).isSome=true
def seqV (d:D):List D:=(seqD V0 d).getD []
def Zgs (d:D):Prop:=(seqD V0 d).isSome=true
def slV (d:D)(lo hi:Option Int):D:=(slOf V0 d lo hi).getD .non
def slOk (d:D)(lo hi:Option Int):Prop:=(slOf V0 d lo hi).isSome=true
def binV (o:Operator)(x y:D):D:=(binD o V0 x y).getD .non
def ZB (o:Operator)(x y:D):Prop:=(binD o V0 x y).isSome=true
def revV (d:D):D:=(revD V0 d).getD .non
def Zgh (d:D):Prop:=(revD V0 d).isSome=true
def ZP:D→Int
 | .int i=>i
 | _=>0
theorem Xt {α:Type}{o:Option α}{x:α}(h:o.isSome=true):o=some (o.getD x):=by cases o with | none=>cases h | some y=>rfl
mutual
theorem ZhV:∀d:D,d.res V0=d
 | .non=>rfl
 | .bl _=>rfl
 | .int _=>rfl
 | .str _=>rfl
 | .tup ds=>by rw[D.res,Zbt ds]
 | .lst ds=>by rw[D.res,Zbt ds]
 | .dic _ _=>rfl
 | .scr _=>rfl
 | .obj _=>rfl
theorem Zbt:∀ds:List D,D.ress V0 ds=ds
 | []=>rfl
 | d :: r=>by rw[D.ress,ZhV d,Zbt r]
end
section
variable {S:Za}{x y d:D}
theorem Zjt (e:d.res S=d)(h:nO d=true∨S=V0):Zl S d=if d.pure=true then some d.toP else none:=by
 cases d with
 | tup ds=>
   have e:D.tup (D.ress S ds)=D.tup ds:=by have e2:=e;rw[D.res] at e2;exact e2
   injection e with e
   unfold Zl
   dsimp only
   rw[e,D.pure,D.toP]
 | lst ds=>
   have e:D.lst (D.ress S ds)=D.lst ds:=by have e2:=e;rw[D.res] at e2;exact e2
   injection e with e
   unfold Zl
   dsimp only
   rw[e,D.pure,D.toP]
 | obj a=>
   rcases h with h | h
   · cases h
   · subst h;rfl
 | _=>rfl
theorem Uc:Zl V0 d=if d.pure=true then some d.toP else none:=Zjt (ZhV d) (.inr rfl)
theorem Zh3 {r}(h:seqD V0 d=some r):seqD S d=some r:=by cases d <;> first | exact h | cases h
theorem Qx {r}(h:Zl V0 d=some r):Zl S d=some r:=by
 rw[Uc] at h
 split at h
 · next hp=>rw[We hp];exact h
 · cases h
theorem ZnR {r}(h:revD V0 d=some r):revD S d=some r:=by cases d <;> first | exact h | cases h
theorem Znm {r}(h:lenF V0 [d]=some r):lenF S [d]=some r:=by cases d <;> first | exact h | cases h
theorem ZnU {lo hi r}(h:slOf V0 d lo hi=some r):slOf S d lo hi=some r:=by cases d <;> first | exact h | cases h
theorem Zm7 {i r}(h:ixOf V0 d i=some r):ixOf S d i=some r:=by cases d <;> cases i <;> first | exact h | cases h
theorem ZjV {r}(h:eqD V0 x y=some r):eqD S x y=some r:=by
 unfold eqD at h ⊢
 cases hx:Zl V0 x with
 | some p=>
   rw[hx] at h;rw[Qx hx]
   cases hy:Zl V0 y with
   | some q=>rw[hy] at h;rw[Qx hy];exact h
   | none=>
     rw[hy] at h;dsimp only at h ⊢
     have hw:y.whole=true:=by
      by_cases z:y.whole=true
      · exact z
      · rw[if_neg (fun a=>z a.1)] at h;cases h
     have:Zl S y=none:=by rw[ZS hw,← Uc];exact hy
     rw[this];exact h
 | none=>
   rw[hx] at h
   cases hy:Zl V0 y with
   | some q=>
     rw[hy] at h;rw[Qx hy];dsimp only at h
     have hw:x.whole=true:=by
      by_cases z:x.whole=true
      · exact z
      · rw[if_neg (fun a=>z a.1)] at h;cases h
     have:Zl S x=none:=by rw[ZS hw,← Uc];exact hx
     rw[this];exact h
   | none=>rw[hy] at h;cases h
theorem ZjX {r}(h:inD V0 x y=some r):inD S x y=some r:=by
 have key:∀r,(match seqD V0 y,Zl V0 x with
   | some ds,some p=>if D.pureAll ds=true∧min (PyData.depthAll (D.toPs ds)) p.depth≤64 then some ((D.toPs ds).any fun z=>PyData.eqv z p) else none
   | some ds,none=>if x.whole=true∧D.pureAll ds=true∧min (PyData.depthAll (D.toPs ds)) x.toQ.depth≤64 then some ((D.toPs ds).any fun z=>PyData.eqv z x.toQ) else none
   | _,_=>none)=some r→(match seqD S y,Zl S x with
   | some ds,some p=>if D.pureAll ds=true∧min (PyData.depthAll (D.toPs ds)) p.depth≤64 then some ((D.toPs ds).any fun z=>PyData.eqv z p) else none
   | some ds,none=>if x.whole=true∧D.pureAll ds=true∧min (PyData.depthAll (D.toPs ds)) x.toQ.depth≤64 then some ((D.toPs ds).any fun z=>PyData.eqv z x.toQ) else none
   | _,_=>none)=some r:=by
  intro r h
  cases hy:seqD V0 y with
  | none=>rw[hy] at h;cases h
  | some ds=>
    rw[hy] at h;rw[Zh3 hy]
    cases hx:Zl V0 x with
    | some p=>rw[hx] at h;rw[Qx hx];exact h
    | none=>
      rw[hx] at h;dsimp only at h
      have hw:x.whole=true:=by
       by_cases z:x.whole=true
       · exact z
       · rw[if_neg (fun a=>z a.1)] at h;cases h
      have:Zl S x=none:=by rw[ZS hw,← Uc];exact hx
      rw[this];exact h
 cases y with
 | str j=>exact h
 | dic ks ds=>exact h
 | tup ds=>exact key r h
 | lst ds=>exact key r h
 | obj a=>exact(by have:inD V0 x (.obj a)=none:=rfl
                   rw[this] at h;cases h)
 | non=>cases h
 | bl b=>cases h
 | int i=>cases h
 | scr xs=>cases h
theorem Zml {o r}(h:cmpB o V0 x y=some r):cmpB o S x y=some r:=by
 cases o
 case Eq=>exact ZjV h
 case NotEq=>
  have h:(eqD V0 x y).map (!·)=some r:=h
  show(eqD S x y).map (!·)=some r
  cases e:eqD V0 x y with
  | none=>rw[e] at h;cases h
  | some b=>rw[e] at h;rw[ZjV e];exact h
 case In=>exact ZjX h
 case NotIn=>
  have h:(inD V0 x y).map (!·)=some r:=h
  show(inD S x y).map (!·)=some r
  cases e:inD V0 x y with
  | none=>rw[e] at h;cases h
  | some b=>rw[e] at h;rw[ZjX e];exact h
 all_goals exact h
theorem Zl5 {r}(h:addD V0 x y=some r):addD S x y=some r:=by
 cases x <;> cases y <;> first | exact h | cases h
theorem Zns {r}(h:mulD V0 x y=some r):mulD S x y=some r:=by
 cases x <;> cases y <;> first | exact h | cases h
theorem Zmg {o r}(h:binD o V0 x y=some r):binD o S x y=some r:=by
 cases o
 case Add=>exact Zl5 h
 case Mult=>exact Zns h
 all_goals exact h
theorem Za9 {k}(h:nO d=true):isaD k S d=some (isaV k d):=by cases d <;> first | rfl | cases h
theorem ZgD (h:Wx d):biD .len S [d]=some (.int (lenV d)):=by
 have e:biD .len S [d]=biD .len V0 [d]:=by
  unfold Wx at h
  rw[Xt (x:=D.non) h];exact Znm (Xt (x:=D.non) h)
 rw[e];unfold Wx at h
 cases d with
 | str x=>
   have q:biD .len V0 [.str x]=if x.length≤sizeLine then some (.int x.length) else none:=rfl
   unfold lenV;rw[q] at h ⊢
   split
   · rfl
   · next z=>rw[if_neg z] at h;cases h
 | tup ds=>rfl
 | lst ds=>rfl
 | dic ks ds=>rfl
 | scr xs=>rfl
 | non=>cases h
 | bl b=>cases h
 | int i=>cases h
 | obj a=>cases h
theorem v_ix {i:D}(h:ixOk d i):ixOf S d i=some (ixV d i):=Zm7 (Xt h)
theorem Zkd {o}(h:VV o x y):cmpB o S x y=some (cmpV o x y):=Zml (Xt h)
theorem v_sl {lo hi}(h:slOk d lo hi):slOf S d lo hi=some (slV d lo hi):=ZnU (Xt h)
theorem Y0 {o}(h:ZB o x y):binD o S x y=some (binV o x y):=Zmg (Xt h)
theorem Zp2 (h:Zgh d):revD S d=some (revV d):=ZnR (Xt h)
theorem Zoe (h:Zgs d):biD .list S [d]=some (.lst ((seqV d).map id)):=by
 rw[List.map_id];show(seqD S d).map D.lst=_;rw[Zh3 (Xt (x:=[]) h)];rfl
def strV (d:D):D:=(biD .str V0 [d]).getD .non
def strOk (d:D):Prop:=(biD .str V0 [d]).isSome=true
theorem Zp3 (h:strOk d):biD .str S [d]=some (strV d):=by
 have e:biD .str S [d]=biD .str V0 [d]:=rfl
 rw[e];exact Xt h
end
end Vw
namespace Vw
open PySem Sw
noncomputable section
end
end Vw
namespace Vw
open PySem Sw
variable {r:Room}{sh:Sw.Zr}{f:Addr×Room}{tk:List Nat}{o:List Seat}{p:ZO}{st:List Str}{m:Nat}{g h:Int}{sp:Option Int}
end Vw
namespace Vw
open PySem Sw
section
variable {G:Cfg}{C:CT}{lin:List Nat}{ρ:PEnv}{w:W}{a b o e:M}{x y z:D}{r:Cs}{E:Xc}{S3:Za}{c f:Str}
end
section
variable {T:Vw.Tab}
end
end Vw
namespace Vw
open PySem Sw
variable {r:Room}{sh:Sw.Zr}{f:Addr×Room}{tk:List Nat}{o:List Seat}{p:ZO}{st:List Str}{sp:Option Int}
end Vw
namespace Vw
open PySem Sw
noncomputable section
end
end Vw
namespace Vw
open PySem Sw
end Vw
namespace Vw
open PySem Sw
mutual
def few:D→Bool
 | .tup ds=>decide (ds.length<4000) && fews ds
 | .lst ds=>decide (ds.length<4000) && fews ds
 | .dic _ ds=>fews ds
 | .scr _=>false
 | .obj _=>false
 | _=>true
def fews:List D→Bool
 | []=>true
 | d :: r=>few d && fews r
end
mutual
def dep:D→Nat
 | .tup ds=>deps ds+1
 | .lst ds=>deps ds+1
 | .dic _ ds=>deps ds+1
 | _=>0
def deps:List D→Nat
 | []=>0
 | d :: r=>max (dep d) (deps r)
end
variable {r:Room}{sh:Sw.Zr}{f:Addr×Room}{o:List Seat}{sp:Option Int}{d h g t:D}
end Vw
namespace Vw
open PySem Sw
variable {r:Room}{sh:Sw.Zr}{f:Addr×Room}{o:List Seat}{sp:Option Int}{d h g t:D}
end Vw
namespace Vw
open PySem Sw
section
variable {T:Vw.Tab}
end
end Vw
namespace Vw
open PySem PySem.Spec PyProof.Rows L2 Sw
def dfOf (l:List (Str×Str×PDef))(c f:Str):Option PDef:=(l.find? fun e=>decide (e.1=c) && decide (e.2.1=f)).map (·.2.2)
def bsOf (l:List (Str×Bs))(f:Str):Option Bs:=(l.find? fun e=>decide (e.1=f)).map (·.2)
def glOf (l:List (Str×D))(x:Str):Option D:=(l.find? fun e=>decide (e.1=x)).map (·.2)
def inL (l:List (Str×Str))(c f:Str):Bool:=l.any fun e=>decide (e.1=c) && decide (e.2=f)
def knOf (dl:List (Str×Str×PDef))(bl:List (Str×Bs))(c f:Str):Bool:=if c = "" then !decide (f = "__init__") && ((dfOf dl "" f).isSome || (bsOf bl f).isSome) else decide (f = "__init__") && (dfOf dl c f).isSome
theorem ZiQ {l:List (Str×Str×PDef)}{c f:Str}{d:PDef}(h:dfOf l c f=some d):(c,f,d)∈l:=by
 unfold dfOf at h
 cases e:l.find? (fun e=>decide (e.1=c) && decide (e.2.1=f)) with
 | none=>rw[e] at h;cases h
 | some z=>
   rw[e] at h;cases h
   have h1:=List.find?_some e
   rw[Bool.and_eq_true,decide_eq_true_eq,decide_eq_true_eq] at h1
   obtain⟨rfl,rfl⟩:=h1
   exact List.mem_of_find?_eq_some e
theorem ZcT {l:List (Str×Bs)}{f:Str}{b:Bs}(h:bsOf l f=some b):(f,b)∈l:=by
 unfold bsOf at h
 cases e:l.find? (fun e=>decide (e.1=f)) with
 | none=>rw[e] at h;cases h
 | some z=>
   rw[e] at h;cases h
   have h1:=List.find?_some e
   rw[decide_eq_true_eq] at h1
   subst h1
   exact List.mem_of_find?_eq_some e
theorem Zi0 {l:List (Str×D)}{f:Str}{b:D}(h:glOf l f=some b):(f,b)∈l:=by
 unfold glOf at h
 cases e:l.find? (fun e=>decide (e.1=f)) with
 | none=>rw[e] at h;cases h
 | some z=>
   rw[e] at h;cases h
   have h1:=List.find?_some e
   rw[decide_eq_true_eq] at h1
   subst h1
   exact List.mem_of_find?_eq_some e
theorem Ze6 {l:List (Str×Str)}{c f:Str}(h:inL l c f=true):(c,f)∈l:=by
 obtain⟨e,he,h⟩:=List.any_eq_true.mp h
 rw[Bool.and_eq_true,decide_eq_true_eq,decide_eq_true_eq] at h
 obtain⟨rfl,rfl⟩:=h
 exact he
section
variable {P:Program}{w:World}{K:PySem.W.Frag}{mg:Str→Option Value}{base:Heap}
theorem ZjK {dl:List (Str×Str×PDef)}{bl:List (Str×Bs)}{gl:List (Str×D)}{fl ml:List (Str×Str)}{k0:Nat}(blt:∀x∈Z6,mg x=none)
  (hd:∀e∈dl,ZfF K mg (knOf dl bl) e.1 e.2.1 e.2.2) (hb:∀e∈bl,LkD P w K mg base (clOf mg) k0 e.1 (spOf e.2)) (dj:(bl.all fun e=>(dfOf dl "" e.1).isNone)=true)
  (hg:∀e∈gl,∃v u,Vf e.2=some v∧mg e.1=some u∧RelV v u) (hf:∀e∈fl,LkF K (clOf mg) e.1 e.2) (hm:(ml.all fun e=>!decide (e.1 = "") && (!decide (e.2 = "__init__") && (dfOf dl e.1 e.2).isSome))=true) :
  ZfK P w K mg base ⟨⟨glOf gl,inL fl,inL ml,false⟩,dfOf dl,bsOf bl⟩ (knOf dl bl) k0:=by
 refine⟨blt,fun c f d h=>hd _ (ZiQ h),fun f b h=>hb _ (ZcT h),fun f b h=>?_,fun x d h=>hg _ (Zi0 h),fun c f h=>hf _ (Ze6 h),fun c m h=>?_,fun f h=>?_,fun c h=>?_⟩
 · have:=List.all_eq_true.mp dj _ (ZcT h)
   exact Option.isNone_iff_eq_none.mp this
 · have:=List.all_eq_true.mp hm _ (Ze6 h)
   simp only[Bool.and_eq_true,Bool.not_eq_true',decide_eq_false_iff_not] at this
   exact⟨this.1,this.2.1,Option.isSome_iff_exists.mp this.2.2⟩
 · have h:(!decide (f = "__init__") && ((dfOf dl "" f).isSome || (bsOf bl f).isSome))=true:=h
   rw[Bool.and_eq_true,Bool.or_eq_true] at h
   exact h.2.imp Option.isSome_iff_exists.mp Option.isSome_iff_exists.mp
 · by_cases e:c = ""
   · subst e
     unfold knOf at h
     rw[if_pos rfl] at h
     simp at h
   · refine⟨e,?_⟩
     unfold knOf at h
     rw[if_neg e,Bool.and_eq_true] at h
     exact Option.isSome_iff_exists.mp h.2
end
end Vw
namespace Vw
open PySem Sw
noncomputable section
end
end Vw
namespace Vw
open PySem Sw
namespace PT
variable {α β γ:Type}
theorem ret_bind (v:α)(Y:α→PT β):(PT.ret v).bind Y=Y v:=rfl
theorem bind_ret (X:PT α):(X.bind fun v=>PT.ret v)=X:=rfl
theorem bind_assoc (X:PT α)(Y:α→PT β)(Z:β→PT γ):(X.bind Y).bind Z=X.bind fun v=>(Y v).bind Z:=rfl
theorem as_bind (ok:Prop)(X:PT α)(Y:α→PT β):(PT.as ok X).bind Y=PT.as ok (X.bind Y):=rfl
theorem as_True (X:PT α):PT.as True X=X:=by funext w Q;simp[PT.as]
end PT
def Ink (p:Addr)(c:Nat)(w:W):Prop:=w.pen=some p∧c≤w.b
def NearS (S S':Za):Prop:=∀a u,S a=some u→S' a=some u∨∃j k:Int,u=.lst [.int j]∧S' a=some (.lst [.int k])
theorem NearS.refl {S:Za}:NearS S S:=fun _ _ h=>.inl h
theorem NearS.trans {S S' S'':Za}(h:NearS S S')(k:NearS S' S''):NearS S S'':=fun a u e=>by
 rcases h a u e with e1 |⟨j,i,rfl,e1⟩
 · exact k a u e1
 · rcases k a _ e1 with e2 |⟨j',i',_,e2⟩
   · exact .inr ⟨j,i,rfl,e2⟩
   · exact .inr ⟨j,i',rfl,e2⟩
def Near (c:Nat)(w w':W):Prop:=NearS w.S w'.S∧w'.pen=w.pen∧w.b≤w'.b+c
theorem Near.refl {c:Nat}{w:W}:Near c w w:=⟨.refl,rfl,by omega⟩
theorem Near.trans {c d:Nat}{w w' w'':W}(h:Near c w w')(k:Near d w' w''):Near (c+d) w w'':=⟨h.1.trans k.1,k.2.1.trans h.2.1,by have:=h.2.2;have:=k.2.2;omega⟩
theorem Ink.near {p:Addr}{c d:Nat}{w w':W}(h:Ink p (c+d) w)(n:Near c w w'):Ink p d w':=⟨n.2.1.trans h.1,by have:=h.2;have:=n.2.2;omega⟩
def Sp {α:Type}(p:Addr)(c:Nat)(X:PT α)(R:α→Prop):Prop:=∀(w:W)(Q:α→W→Prop),Ink p c w→(∀v w',R v→Near c w w'→Q v w')→X w Q
section
variable {α β σ τ:Type}{p:Addr}{c d:Nat}{X:PT α}{Y:α→PT β}{R:α→Prop}{T:β→Prop}
theorem Sp.ret {v:α}(h:R v):Sp p c (PT.ret v) R:=fun w Q _ k=>k v w h .refl
theorem Sp.as {ok:Prop}(h:ok)(x:Sp p c X R):Sp p c (PT.as ok X) R:=fun w Q i k=>⟨h,x w Q i k⟩
theorem Sp.bind (x:Sp p c X R)(y:∀v,R v→Sp p d (Y v) T):Sp p (c+d) (X.bind Y) T:=fun w Q i k=>
 x w _ ⟨i.1,by have:=i.2;omega⟩ fun v w' r n=>y v r w' _ (i.near n) fun u w'' t n'=>k u w'' t (n.trans n')
theorem Sp.up {c':Nat}{R':α→Prop}(x:Sp p c X R)(h:c≤c')(m:∀v,R v→R' v):Sp p c' X R':=fun w Q i k=>
 x w Q ⟨i.1,by have:=i.2;omega⟩ fun v w' r n=>k v w' (m v r) ⟨n.1,n.2.1,by have:=n.2.2;omega⟩
theorem Sp.more {c':Nat}(x:Sp p c X R)(h:c≤c'):Sp p c' X R:=x.up h fun _ h=>h
theorem Sp.bindW {e:Nat}(x:Sp p c X R)(h:c≤e)(y:∀v,R v→Sp p (e - c) (Y v) T):Sp p e (X.bind Y) T:=(x.bind y).more (by omega)
theorem Sp.dr {m:Int}(h1:0<m)(h2:m<2 ^ 62):Sp p 1 (PT.dr p m) fun r=>0≤r∧r<m:=fun w Q i k=>
 ⟨i.1,h1,by omega,i.2,fun r r1 r2=>k r _ ⟨r1,r2⟩ ⟨.refl,rfl,by show w.b≤w.b - 1+1;omega⟩⟩
theorem Sp.ite {t:Bool}{U V:PT α}(h1:t=true→Sp p c U R)(h2:t=false→Sp p c V R):Sp p c (if t=true then U else V) R:=by
 cases t with
 | true=>rw[if_pos rfl];exact h1 rfl
 | false=>rw[if_neg (by decide)];exact h2 rfl
theorem Sp.mapM {f:α→PT β}{R:α→β→Prop}:∀(xs:List α),(∀x∈xs,Sp p c (f x) (R x))→Sp p (xs.length * c) (PT.mapM f xs) fun ys=>ys.length=xs.length∧∀(i:Nat) x y,xs[i]?=some x→ys[i]?=some y→R x y
 | [],_=>Sp.ret ⟨rfl,by simp⟩
 | x :: r,h=>by
   rw[PT.mapM,List.length_cons,Nat.add_mul,Nat.one_mul,Nat.add_comm]
   refine Sp.bind (h x (by simp)) fun y hy=>?_
   refine Sp.bindW (Sp.mapM r fun z hz=>h z (List.mem_cons_of_mem _ hz)) (Nat.le_refl _) fun ys hys=>Sp.ret ⟨by simp[hys.1],fun i a b ha hb=>?_⟩
   cases i with
   | zero=>simp at ha hb;subst ha hb;exact hy
   | succ i=>simp at ha hb;exact hys.2 i a b ha hb
theorem Sp.filM {f:α→PT (Option β)}{T:β→Prop}:∀(xs:List α),(∀x∈xs,Sp p c (f x) fun o=>∀y,o=some y→T y)→Sp p (xs.length * c) (PT.filM f xs) fun ys=>ys.length≤xs.length∧∀y∈ys,T y
 | [],_=>Sp.ret ⟨Nat.le_refl _,by simp⟩
 | x :: r,h=>by
   rw[PT.filM,List.length_cons,Nat.add_mul,Nat.one_mul,Nat.add_comm]
   refine Sp.bind (h x (by simp)) fun y hy=>?_
   refine Sp.bindW (Sp.filM r fun z hz=>h z (List.mem_cons_of_mem _ hz)) (Nat.le_refl _) fun ys hys=>Sp.ret ?_
   cases y with
   | none=>exact⟨by have:=hys.1;simp;omega,by simpa using hys.2⟩
   | some z=>exact⟨by have:=hys.1;simp;omega,by simpa using ⟨hy z rfl,hys.2⟩⟩
theorem Sp.fold {step:σ→α→PT σ}(I:List α→σ→Prop):∀(xs:List α)(s:σ),I xs s→(∀s x r,I (x :: r) s→Sp p c (step s x) fun s'=>I r s')→Sp p (xs.length * c) (PT.fold step xs s) fun s'=>I [] s'
 | [],s,i,_=>Sp.ret i
 | x :: r,s,i,h=>by
   rw[PT.fold,List.length_cons,Nat.add_mul,Nat.one_mul,Nat.add_comm]
   exact Sp.bind (h s x r i) fun s' i'=>Sp.fold I r s' i' h
theorem Sp.loop {step:σ→α→PT (Sum τ σ)}(I:List α→σ→Prop)(B:τ→Prop):∀(xs:List α)(s:σ),I xs s→(∀s x r,I (x :: r) s→Sp p c (step s x) fun z=>sc z B fun s'=>I r s')→Sp p (xs.length * c) (PT.loop step xs s) fun z=>sc z B fun s'=>I [] s'
 | [],s,i,_=>Sp.ret i
 | x :: r,s,i,h=>by
   rw[PT.loop,List.length_cons,Nat.add_mul,Nat.one_mul,Nat.add_comm]
   refine Sp.bind (h s x r i) fun z hz=>?_
   cases z with
   | inl t=>exact Sp.ret hz
   | inr s'=>exact Sp.loop I B r s' hz h
theorem Sp.stay {step:Unit→α→PT (Sum τ Unit)}(xs:List α)(h:∀x∈xs,Sp p c (step () x) fun z=>z=.inr ()):Sp p (xs.length * c) (PT.loop step xs ()) fun z=>z=.inr ():=by
 refine(Sp.loop (fun r _=>∀x∈r,Sp p c (step () x) fun z=>z=.inr ()) (fun _=>False) xs () h fun s x r i=>?_).up (Nat.le_refl _) fun z hz=>?_
 · refine(i x (by simp)).up (Nat.le_refl _) fun z hz=>?_
   subst hz;exact fun y hy=>i y (List.mem_cons_of_mem _ hy)
 · cases z with
   | inl t=>exact hz.elim
   | inr s=>rfl
end
def SpC {α:Type}(a:Addr)(p:Addr)(c:Nat)(X:PT α)(R:α→Prop):Prop:=∀(w:W)(Q:α→W→Prop),Ink p c w→(∃k:Int,w.S a=some (.lst [.int k]))→(∀v w',R v→Near c w w'→Q v w')→X w Q
section
variable {α β σ τ:Type}{a p:Addr}{c d:Nat}{X:PT α}{Y:α→PT β}{R:α→Prop}{T:β→Prop}
theorem ZgV {S S':Za}(h:∃k:Int,S a=some (.lst [.int k]))(n:NearS S S'):∃k:Int,S' a=some (.lst [.int k]):=by
 obtain⟨k,e⟩:=h
 rcases n a _ e with e1 |⟨_,i,_,e1⟩
 · exact⟨k,e1⟩
 · exact⟨i,e1⟩
theorem Sp.cell (x:Sp p c X R):SpC a p c X R:=fun w Q i _ k=>x w Q i k
theorem SpC.ret {v:α}(h:R v):SpC a p c (PT.ret v) R:=(Sp.ret h).cell
theorem SpC.as {ok:Prop}(h:ok)(x:SpC a p c X R):SpC a p c (PT.as ok X) R:=fun w Q i e k=>⟨h,x w Q i e k⟩
theorem SpC.bind (x:SpC a p c X R)(y:∀v,R v→SpC a p d (Y v) T):SpC a p (c+d) (X.bind Y) T:=fun w Q i e k=>
 x w _ ⟨i.1,by have:=i.2;omega⟩ e fun v w' r n=>y v r w' _ (i.near n) (ZgV e n.1) fun u w'' t n'=>k u w'' t (n.trans n')
theorem SpC.up {c':Nat}{R':α→Prop}(x:SpC a p c X R)(h:c≤c')(m:∀v,R v→R' v):SpC a p c' X R':=fun w Q i e k=>
 x w Q ⟨i.1,by have:=i.2;omega⟩ e fun v w' r n=>k v w' (m v r) ⟨n.1,n.2.1,by have:=n.2.2;omega⟩
theorem SpC.bindW {e:Nat}(x:SpC a p c X R)(h:c≤e)(y:∀v,R v→SpC a p (e - c) (Y v) T):SpC a p e (X.bind Y) T:=(x.bind y).up (by omega) fun _ h=>h
theorem SpC.ite {t:Bool}{U V:PT α}(h1:t=true→SpC a p c U R)(h2:t=false→SpC a p c V R):SpC a p c (if t=true then U else V) R:=by
 cases t with
 | true=>rw[if_pos rfl];exact h1 rfl
 | false=>rw[if_neg (by decide)];exact h2 rfl
theorem SpC.fold {step:σ→α→PT σ}(I:List α→σ→Prop):∀(xs:List α)(s:σ),I xs s→(∀s x r,I (x :: r) s→SpC a p c (step s x) fun s'=>I r s')→SpC a p (xs.length * c) (PT.fold step xs s) fun s'=>I [] s'
 | [],s,i,_=>SpC.ret i
 | x :: r,s,i,h=>by
   rw[PT.fold,List.length_cons,Nat.add_mul,Nat.one_mul,Nat.add_comm]
   exact SpC.bind (h s x r i) fun s' i'=>SpC.fold I r s' i' h
theorem SpC.loop {step:σ→α→PT (Sum τ σ)}(I:List α→σ→Prop)(B:τ→Prop):∀(xs:List α)(s:σ),I xs s→(∀s x r,I (x :: r) s→SpC a p c (step s x) fun z=>sc z B fun s'=>I r s')→SpC a p (xs.length * c) (PT.loop step xs s) fun z=>sc z B fun s'=>I [] s'
 | [],s,i,_=>SpC.ret i
 | x :: r,s,i,h=>by
   rw[PT.loop,List.length_cons,Nat.add_mul,Nat.one_mul,Nat.add_comm]
   refine SpC.bind (h s x r i) fun z hz=>?_
   cases z with
   | inl t=>exact SpC.ret hz
   | inr s'=>exact SpC.loop I B r s' hz h
theorem SpC.get:SpC a p 0 (PT.getC a) fun _=>True:=fun w Q i e k=>by
 obtain⟨j,h⟩:=e
 exact⟨j,h,k j w trivial .refl⟩
theorem SpC.put {i:Int}:SpC a p 0 (PT.putC a i) fun _=>True:=fun w Q _ e k=>by
 refine⟨e,k () _ trivial ⟨fun b u h=>?_,rfl,Nat.le_refl _⟩⟩
 by_cases eb:b=a
 · subst eb
   obtain⟨j,hj⟩:=e
   rw[hj] at h;cases h
   exact .inr ⟨j,i,rfl,Zq⟩
 · refine .inl ?_
   show sput w.S a _ b=some u
   rw[Zo eb];exact h
theorem Sp.new {i:Int}{Y:Addr→PT β}(h:∀a,SpC a p c (Y a) T):Sp p c ((PT.newC i).bind Y) T:=fun w Q k q b hb hp=>by
 refine h b _ Q ⟨k.1,k.2⟩ ⟨i,Zq⟩ fun v w' t n=>q v w' t ⟨NearS.trans (fun a u e=>.inl ?_) n.1,n.2.1,n.2.2⟩
 have:a≠b:=fun e2=>by subst e2;rw[hb] at e;cases e
 show sput w.S b _ a=some u
 rw[Zo this];exact e
end
theorem WG {α:Type}{xs:List α}{i:Int}(h0:0≤i)(h1:i<xs.length):(ixD xs i).isSome=true:=by
 unfold ixD;rw[if_pos h0,List.getElem?_eq_getElem (by omega)];rfl
theorem WF {α:Type}[Inhabited α]{xs:List α}{i:Int}(h0:0≤i)(h1:i<xs.length):(ixD xs i).getD default∈xs:=by
 unfold ixD;rw[if_pos h0,List.getElem?_eq_getElem (by omega)];exact List.getElem_mem _
theorem ZlG {p:Addr}{m:Int}(h0:1≤m)(h1:m≤8):Sp p 60 (WT p m) fun r=>Zv r∧((namesOf r.rows).length:Int)≤m:=fun w Q i k=>
 ⟨i.1,i.2,⟨h0,h1⟩,fun r a b=>k r _ ⟨a,b⟩ ⟨.refl,rfl,by show w.b≤w.b - 60+60;omega⟩⟩
end Vw
namespace Vw
open PySem Sw
section
variable {α β τ:Type}{G:Cfg}{C:CT}{lin:List Nat}{md:Md}{ρ:PEnv}{e:M}{i:Nat}{r:Cs}{ks:List Cs}{F:τ→Out}{f:α→D}{f':β→D}{X:PT α}
theorem ZpN {S:Za}{xs:List α}:srcD .it S [.lst (xs.map f)]=some (xs.map f):=rfl
theorem Zka {S:Za}{xs:List α}:srcD .it S [.tup (xs.map f)]=some (xs.map f):=rfl
end
end Vw
namespace Vw
open PySem Sw
def LAt (S:Za)(p:Addr)(ds:List D):Prop:=S p=some (.lst ds)
namespace PT
def meth (c m:Str)(p:Addr):PT Unit:=fun w Q=>(∃fs,w.S p=some (.ins c fs)∧fs.lookup m=none)∧Q () w
end PT
section
variable {α β γ τ:Type}{G:Cfg}{C:CT}{lin:List Nat}{md:Md}{ρ:PEnv}{w:W}{e o a b:M}{as:Ms}{i:Nat}{r:Cs}{ks:List Cs}{F:τ→Out}{f:α→D}{g:γ→D}{X:PT α}{Z:PT τ}{c n m:Str}{p:Addr}{d:D}
end
section
variable {α:Type}{f:α→D}{S:Za}{a:Addr}{xs:List α}{kvs:List (Str×α)}
theorem ZpO (h:LAt S a (xs.map f)):srcD .it S [.obj a]=some (xs.map f):=by
 have h:S a=_:=h
 show itS S [.obj a]=_
 simp[itS,seqD,peel,h]
end
end Vw
namespace Vw
open PySem Sw
section
variable {α τ:Type}{G:Cfg}{C:CT}{lin:List Nat}{ρ:PEnv}{e:M}{tg:Tg}{p r:Cs}{ks:List Cs}{F:τ→Out}
end
end Vw
namespace Vw
open PySem Sw
section
variable {α:Type}{f:α→D}{S:Za}
end
section
variable {G:Cfg}{C:CT}{md:Md}{a:M}{ρ ρ1:PEnv}{w:W}{d:D}
end
section
variable {G:Cfg}{C:CT}{lin:List Nat}{ρ:PEnv}{w:W}{a b:M}{d z y u:D}{r:Cs}{ks:List Cs}{o:Out}
end
section
variable {α:Type}{f:α→D}{S:Za}{xs:List α}
theorem Zno:biD .list S [eT f xs]=some (eL f xs):=rfl
theorem Zfz:biD .tuple S [eL f xs]=some (eT f xs):=rfl
end
end Vw
namespace Vw
open PySem Sw
end Vw
namespace Vw
open PySem Sw
def ZY (d:D):Str:=d.toQ.shown
def Y4 (d:D):Prop:=d.whole=true∧d.toQ.showable=true∧d.toQ.depth≤64∧d.toQ.shown.length+64≤sizeLine
theorem Zba {S:Za}{d:D}(h:Y4 d):biD .repr S [d]=some (.str (ZY d)):=by
 obtain⟨h0,h1,h2,h3⟩:=h
 show Wf S [d]=_
 unfold Wf
 dsimp only
 rw[ZS h0]
 by_cases hp:d.pure=true
 · rw[if_pos hp]
   dsimp only
   rw[← Uo d hp]
   rw[if_pos ⟨h1,by rw[Uo d hp];exact QS d hp,h2,h3⟩]
   rfl
 · rw[if_neg hp]
   dsimp only
   rw[if_pos ⟨h0,h1,h2,h3⟩]
   rfl
theorem ZaY {d:D}{w h:Nat}(n:Fit d w h)(hw:w≤40000)(hh:h≤64):Y4 d:=by
 obtain⟨a,b⟩:=Q6 d n.fit
 have h1:=PyData.shown_le 400 (by decide) d.toQ b
 have h2:(400+2) * d.toQ.weight≤402 * 40000:=Nat.mul_le_mul (by omega) (by have:=n.wt;omega)
 have h3:d.toQ.shown.length+64≤sizeLine:=by rw[sizeLine_eq];omega
 exact⟨UI d n.fit,a,by have:=n.dp;omega,h3⟩
theorem Zb2 (b:Bool):Y4 (.bl b):=ZaY (w:=10) (h:=4) ⟨rfl,by cases b <;> decide,by cases b <;> decide⟩ (by decide) (by decide)
theorem Zla {G:Cfg}{C:CT}{md:Md}{a b c:M}{ρ:PEnv}{α γ:Type}{f:α→D}{k:γ→D}{X:PT α}{Y:PT Int}{l:Int}(ok:α→Int→Prop)(u:α→Int→γ)(ha:JP G C .op a ρ f X)(hl:∀w,J G C .ex b ρ w (.int l))(hb:JP G C .ex c ρ D.int Y)(h:∀S x y,ok x y→slOf S (f x) (some l) (some y)=some (k (u x y))):JP G C md (.sl true true a (.cons b (.cons c .nil))) ρ k (X.bind fun x=>Y.bind fun y=>.as (ok x y) (.ret (u x y))):=fun w Q P q m=>by
 rw[xE]
 refine ha w _ _ q fun x w1 p1=>?_
 rw[xIs]
 refine(hl w1).1 _ ?_
 show xIs _ _ _ _ _ _
 rw[xIs]
 refine hb w1 _ _ p1 fun y w2 p2=>?_
 show xIs _ _ _ _ _ _
 rw[xIs]
 show optD _ _
 rw[h _ _ _ p2.1];exact m _ _ p2.2
section
variable {T:Vw.Tab}
abbrev Yb (r:Room)(d:D):Bool:=YL r d
abbrev XJ (r:Room)(d:D):Prop:=Zv r∧d.deep=true
def VM (T:Vw.Tab):Prop:=∀(n:Nat) (w:W) (r:Room) (d:D),XJ r d→∀Q:QW,Q (.bl (Yb r d)) w→cX T n "" "is_stand" [Zj r,d] w Q
theorem Zgl (h:Base T "is_stand" (.R VF)):VM T:=fun n w r d ok Q q=>(VU T n).symm▸h.eq.mpr ⟨_,.mk r d ok.1 ok.2,q⟩
end
end Vw
namespace Vw
open PySem Sw
noncomputable section
def B_law_odd:Cs:=
    (.cons (.asg (.nm 1) (.lst (.cons (.k .non) (.cons (.k (.bl true)) (.cons (.k (.bl false)) (.cons (.k (.int 0)) (.cons (.k (.int 1)) (.cons (.neg (.k (.int 1))) (.cons (.k (.int 7)) (.cons (.k (.int 21)) (.cons (.k (.int 61)) (.cons (.bin .Pow (.k (.int 10)) (.k (.int 59))) (.cons (.neg (.bin .Pow (.k (.int 10)) (.k (.int 59)))) (.cons (.k (.str "")) (.cons (.k (.str "a")) (.cons (.k (.str "A")) (.cons (.k (.str "a1")) (.cons (.k (.str "abcdefghi")) (.cons (.k (.str "abcdefgh")) .nil)))))))))))))))))))
    (.cons (.asg (.nm 1) (.bin .Add (.v 1) (.lst (.cons (.tup .nil) (.cons (.lst .nil) (.cons (.dct [] .nil) (.cons (.tup (.cons (.k (.str "a")) .nil)) (.cons (.lst (.cons (.k (.str "a")) .nil)) (.cons (.tup (.cons (.k (.str "a")) (.cons (.k (.int 1)) .nil))) (.cons (.lst (.cons (.k (.str "a")) (.cons (.k (.int 1)) .nil))) (.cons (.tup (.cons (.k (.str "a")) (.cons (.k (.int 1)) (.cons (.k (.int 2)) .nil)))) (.cons (.tup (.cons (.tup (.cons (.k (.str "a")) (.cons (.k (.int 1)) .nil))) .nil)) (.cons (.tup (.cons (.tup .nil) .nil)) (.cons (.lst (.cons (.lst .nil) .nil)) (.cons (.dct ["a"] (.cons (.k (.int 1)) .nil)) .nil)))))))))))))))
    (.cons (.asg (.nm 1) (.bin .Add (.v 1) (.lst (.cons (.tup (.cons (.tup (.cons (.tup (.cons (.tup (.cons (.k (.str "a")) (.cons (.k (.int 1)) .nil))) .nil)) .nil)) (.cons (.k (.int 0)) .nil))) (.cons (.tup (.cons (.lst (.cons (.tup (.cons (.tup (.cons (.k (.str "a")) (.cons (.k (.int 1)) .nil))) .nil)) .nil)) (.cons (.k (.int 0)) .nil))) (.cons (.tup (.cons (.k (.str "a")) (.cons (.k (.int 1)) (.cons (.k (.int 0)) (.cons (.k (.int 1)) .nil))))) (.cons (.tup (.cons (.k (.str "a")) (.cons (.tup (.cons (.k (.str "a")) .nil)) .nil))) (.cons (.tup (.cons (.k (.int 1)) (.cons (.tup .nil) (.cons (.tup .nil) (.cons (.tup .nil) .nil))))) .nil))))))))
    (.cons (.ret (.ix (.v 1) (.call "_law_draw" (.cons (.v 0) (.cons (.k (.int 34)) .nil)))))
    .nil))))
def Vi:PDef:=⟨2,1,[],true,false,B_law_odd⟩
def Yv (pen:Addr):PT D:=(PT.bind (PT.ret ([((eO (fun x:Unit=>D.non)) none),(D.bl true),(D.bl false),(D.int (0:Int)),(D.int (1:Int)),(D.int (-(1:Int))),(D.int (7:Int)),(D.int (21:Int)),(D.int (61:Int)),(D.int (100000000000000000000000000000000000000000000000000000000000:Int)),(D.int (-(100000000000000000000000000000000000000000000000000000000000:Int))),(D.str ("" : Str)),(D.str ("a" : Str)),(D.str ("A" : Str)),(D.str ("a1" : Str)),(D.str ("abcdefghi" : Str)),(D.str ("abcdefgh" : Str))])) (fun some_3=>(PT.bind (PT.as ((some_3.length+([((eT (fun x:Unit=>D.non)) ([])),((eL (fun x:Unit=>D.non)) ([])),((eM (fun x:Unit=>D.non)) ([])),((eP1 D.str) ("a" : Str)),((eL D.str) ([("a" : Str)])),((eP2 D.str D.int) (("a" : Str),(1:Int))),((eL id) ([(D.str ("a" : Str)),(D.int (1:Int))])),((eP3 D.str D.int D.int) (("a" : Str),(1:Int),(2:Int))),((eP1 (eP2 D.str D.int)) (("a" : Str),(1:Int))),((eP1 (eT (fun x:Unit=>D.non))) ([])),((eL (eL (fun x:Unit=>D.non))) ([[]])),(D.dic ([("a" : Str)].map Sum.inr) [(D.int (1:Int))])]).length≤sizeLine)) (PT.ret (some_3++[((eT (fun x:Unit=>D.non)) ([])),((eL (fun x:Unit=>D.non)) ([])),((eM (fun x:Unit=>D.non)) ([])),((eP1 D.str) ("a" : Str)),((eL D.str) ([("a" : Str)])),((eP2 D.str D.int) (("a" : Str),(1:Int))),((eL id) ([(D.str ("a" : Str)),(D.int (1:Int))])),((eP3 D.str D.int D.int) (("a" : Str),(1:Int),(2:Int))),((eP1 (eP2 D.str D.int)) (("a" : Str),(1:Int))),((eP1 (eT (fun x:Unit=>D.non))) ([])),((eL (eL (fun x:Unit=>D.non))) ([[]])),(D.dic ([("a" : Str)].map Sum.inr) [(D.int (1:Int))])]))) (fun some_6=>(PT.bind (PT.as ((some_6.length+([((eP2 (eP1 (eP1 (eP2 D.str D.int))) D.int) ((("a" : Str),(1:Int)),(0:Int))),((eP2 (eL (eP1 (eP2 D.str D.int))) D.int) ([(("a" : Str),(1:Int))],(0:Int))),((eP4 D.str D.int D.int D.int) (("a" : Str),(1:Int),(0:Int),(1:Int))),((eP2 D.str (eP1 D.str)) (("a" : Str),("a" : Str))),((eP4 D.int (eT (fun x:Unit=>D.non)) (eT (fun x:Unit=>D.non)) (eT (fun x:Unit=>D.non))) ((1:Int),[],[],[]))]).length≤sizeLine)) (PT.ret (some_6++[((eP2 (eP1 (eP1 (eP2 D.str D.int))) D.int) ((("a" : Str),(1:Int)),(0:Int))),((eP2 (eL (eP1 (eP2 D.str D.int))) D.int) ([(("a" : Str),(1:Int))],(0:Int))),((eP4 D.str D.int D.int D.int) (("a" : Str),(1:Int),(0:Int),(1:Int))),((eP2 D.str (eP1 D.str)) (("a" : Str),("a" : Str))),((eP4 D.int (eT (fun x:Unit=>D.non)) (eT (fun x:Unit=>D.non)) (eT (fun x:Unit=>D.non))) ((1:Int),[],[],[]))]))) (fun some_9=>(PT.bind (PT.bind (PT.ret some_9) (fun u13=>(PT.bind (Zs pen (34:Int)) (fun v14=>(PT.as (((ixD u13 v14).isSome=true)) (PT.ret ((ixD u13 v14).getD default))))))) (fun u15=>(PT.ret u15)))))))))
def XZ (T:Vw.Tab):Prop:=∀(n:Nat) (pen:Addr) (w:W) (Q:QW) (P:D→W→Prop),Yv pen w P→(∀v w',P v w'→Q v w')→cX T (n+1) "" "_law_odd" [(D.obj pen)] w Q
theorem ZhY {T:Vw.Tab}(h:T.df "" "_law_odd" = some Vi) (iS_law_draw:YG T):XZ T:=fun n pen w Q P z m=>sq_of (f:=id) h rfl rfl
 (V2 (ZC (ρ':=[some (false,(D.obj pen)),none]) rfl (Z1 (f:=(eL id)) rfl (Yf (f:=(eL id)) ([((eO (fun x:Unit=>D.non)) none),(D.bl true),(D.bl false),(D.int (0:Int)),(D.int (1:Int)),(D.int (-(1:Int))),(D.int (7:Int)),(D.int (21:Int)),(D.int (61:Int)),(D.int (100000000000000000000000000000000000000000000000000000000000:Int)),(D.int (-(100000000000000000000000000000000000000000000000000000000000:Int))),(D.str ("" : Str)),(D.str ("a" : Str)),(D.str ("A" : Str)),(D.str ("a1" : Str)),(D.str ("abcdefghi" : Str)),(D.str ("abcdefgh" : Str))]) (fun w=>(Xu (Zc j_k (Zc j_k (Zc j_k (Zc j_k (Zc j_k (Zc (Zf0 j_k) (Zc j_k (Zc j_k (Zc j_k (Zc (ZH (o:=.Pow) (x:=(D.int (10:Int))) (y:=(D.int (59:Int))) j_k j_k (Zgg (k:=(100000000000000000000000000000000000000000000000000000000000:Int)) (by decide +kernel))) (Zc (Zf0 (ZH (o:=.Pow) (x:=(D.int (10:Int))) (y:=(D.int (59:Int))) j_k j_k (Zgg (k:=(100000000000000000000000000000000000000000000000000000000000:Int)) (by decide +kernel)))) (Zc j_k (Zc j_k (Zc j_k (Zc j_k (Zc j_k (Zc j_k Zf))))))))))))))))) ZpS))) (fun _=>ZK) (fun some_3=>(ZC (ρ':=[some (false,(D.obj pen)),some (false,((eL id) some_3))]) rfl (Z1 (f:=(eL id)) rfl (Yq (f:=(eL id)) ((some_3.length+([((eT (fun x:Unit=>D.non)) ([])),((eL (fun x:Unit=>D.non)) ([])),((eM (fun x:Unit=>D.non)) ([])),((eP1 D.str) ("a" : Str)),((eL D.str) ([("a" : Str)])),((eP2 D.str D.int) (("a" : Str),(1:Int))),((eL id) ([(D.str ("a" : Str)),(D.int (1:Int))])),((eP3 D.str D.int D.int) (("a" : Str),(1:Int),(2:Int))),((eP1 (eP2 D.str D.int)) (("a" : Str),(1:Int))),((eP1 (eT (fun x:Unit=>D.non))) ([])),((eL (eL (fun x:Unit=>D.non))) ([[]])),(D.dic ([("a" : Str)].map Sum.inr) [(D.int (1:Int))])]).length≤sizeLine)) (some_3++[((eT (fun x:Unit=>D.non)) ([])),((eL (fun x:Unit=>D.non)) ([])),((eM (fun x:Unit=>D.non)) ([])),((eP1 D.str) ("a" : Str)),((eL D.str) ([("a" : Str)])),((eP2 D.str D.int) (("a" : Str),(1:Int))),((eL id) ([(D.str ("a" : Str)),(D.int (1:Int))])),((eP3 D.str D.int D.int) (("a" : Str),(1:Int),(2:Int))),((eP1 (eP2 D.str D.int)) (("a" : Str),(1:Int))),((eP1 (eT (fun x:Unit=>D.non))) ([])),((eL (eL (fun x:Unit=>D.non))) ([[]])),(D.dic ([("a" : Str)].map Sum.inr) [(D.int (1:Int))])]) (fun k5 w=>(ZH (o:=.Add) (x:=((eL id) some_3)) (y:=((eL id) ([((eT (fun x:Unit=>D.non)) ([])),((eL (fun x:Unit=>D.non)) ([])),((eM (fun x:Unit=>D.non)) ([])),((eP1 D.str) ("a" : Str)),((eL D.str) ([("a" : Str)])),((eP2 D.str D.int) (("a" : Str),(1:Int))),((eL id) ([(D.str ("a" : Str)),(D.int (1:Int))])),((eP3 D.str D.int D.int) (("a" : Str),(1:Int),(2:Int))),((eP1 (eP2 D.str D.int)) (("a" : Str),(1:Int))),((eP1 (eT (fun x:Unit=>D.non))) ([])),((eL (eL (fun x:Unit=>D.non))) ([[]])),(D.dic ([("a" : Str)].map Sum.inr) [(D.int (1:Int))])]))) (j_v rfl) (Xu (Zc (Z3 Zf sz_0) (Zc (Xu Zf sz_0) (Zc (ZjZ (ks:=[]) Zf) (Zc (Z3 (Zc j_k Zf) sz_1) (Zc (Xu (Zc j_k Zf) sz_1) (Zc (Z3 (Zc j_k (Zc j_k Zf)) sz_2) (Zc (Xu (Zc j_k (Zc j_k Zf)) sz_2) (Zc (Z3 (Zc j_k (Zc j_k (Zc j_k Zf))) sz_3) (Zc (Z3 (Zc (Z3 (Zc j_k (Zc j_k Zf)) sz_2) Zf) sz_1) (Zc (Z3 (Zc (Z3 Zf sz_0) Zf) sz_1) (Zc (Xu (Zc (Xu Zf sz_0) Zf) sz_1) (Zc (ZjZ (ks:=[("a" : Str)]) (Zc j_k Zf)) Zf)))))))))))) ZpR) (Zax (f:=id) k5)))) (fun _=>ZK) (fun some_6=>(ZC (ρ':=[some (false,(D.obj pen)),some (false,((eL id) some_6))]) rfl (Z1 (f:=(eL id)) rfl (Yq (f:=(eL id)) ((some_6.length+([((eP2 (eP1 (eP1 (eP2 D.str D.int))) D.int) ((("a" : Str),(1:Int)),(0:Int))),((eP2 (eL (eP1 (eP2 D.str D.int))) D.int) ([(("a" : Str),(1:Int))],(0:Int))),((eP4 D.str D.int D.int D.int) (("a" : Str),(1:Int),(0:Int),(1:Int))),((eP2 D.str (eP1 D.str)) (("a" : Str),("a" : Str))),((eP4 D.int (eT (fun x:Unit=>D.non)) (eT (fun x:Unit=>D.non)) (eT (fun x:Unit=>D.non))) ((1:Int),[],[],[]))]).length≤sizeLine)) (some_6++[((eP2 (eP1 (eP1 (eP2 D.str D.int))) D.int) ((("a" : Str),(1:Int)),(0:Int))),((eP2 (eL (eP1 (eP2 D.str D.int))) D.int) ([(("a" : Str),(1:Int))],(0:Int))),((eP4 D.str D.int D.int D.int) (("a" : Str),(1:Int),(0:Int),(1:Int))),((eP2 D.str (eP1 D.str)) (("a" : Str),("a" : Str))),((eP4 D.int (eT (fun x:Unit=>D.non)) (eT (fun x:Unit=>D.non)) (eT (fun x:Unit=>D.non))) ((1:Int),[],[],[]))]) (fun k8 w=>(ZH (o:=.Add) (x:=((eL id) some_6)) (y:=((eL id) ([((eP2 (eP1 (eP1 (eP2 D.str D.int))) D.int) ((("a" : Str),(1:Int)),(0:Int))),((eP2 (eL (eP1 (eP2 D.str D.int))) D.int) ([(("a" : Str),(1:Int))],(0:Int))),((eP4 D.str D.int D.int D.int) (("a" : Str),(1:Int),(0:Int),(1:Int))),((eP2 D.str (eP1 D.str)) (("a" : Str),("a" : Str))),((eP4 D.int (eT (fun x:Unit=>D.non)) (eT (fun x:Unit=>D.non)) (eT (fun x:Unit=>D.non))) ((1:Int),[],[],[]))]))) (j_v rfl) (Xu (Zc (Z3 (Zc (Z3 (Zc (Z3 (Zc (Z3 (Zc j_k (Zc j_k Zf)) sz_2) Zf) sz_1) Zf) sz_1) (Zc j_k Zf)) sz_2) (Zc (Z3 (Zc (Xu (Zc (Z3 (Zc (Z3 (Zc j_k (Zc j_k Zf)) sz_2) Zf) sz_1) Zf) sz_1) (Zc j_k Zf)) sz_2) (Zc (Z3 (Zc j_k (Zc j_k (Zc j_k (Zc j_k Zf)))) sz_4) (Zc (Z3 (Zc j_k (Zc (Z3 (Zc j_k Zf) sz_1) Zf)) sz_2) (Zc (Z3 (Zc j_k (Zc (Z3 Zf sz_0) (Zc (Z3 Zf sz_0) (Zc (Z3 Zf sz_0) Zf)))) sz_4) Zf))))) sz_5) (Zax (f:=id) k8)))) (fun _=>ZK) (fun some_9=>(ZC (ρ':=[some (false,(D.obj pen)),some (false,((eL id) some_9))]) rfl (Y2 (f:=id) (fun u15=>u15) rfl (Qu (k:=id) (f:=(eL id)) (g:=D.int) (fun(u13:(List D)) (v14:Int)=>((ixD u13 v14).isSome=true)) (fun(u13:(List D)) (v14:Int)=>((ixD u13 v14).getD default)) (Yf (f:=(eL id)) some_9 (fun w=>(j_v rfl))) (ZI (g:=D.int) (Y:=Zs pen (34:Int)) (fun w=>(Zc (j_v rfl) (Zc j_k Zf))) (fun w Q P q m=>iS_law_draw n pen (34:Int) w Q P q m)) (fun S (u13:(List D)) (v14:Int) ok=>(ix_L (f:=id) ok))) (fun _=>rfl)))))))))))) (by unfold Yv;rfl)) w Q P z m
def B_law_bent:Cs:=
    (.cons (.asg (.nm 2) (.call "_law_draw" (.cons (.v 0) (.cons (.k (.int 8)) .nil))))
    (.cons (.ifs (.isa .str (.v 1)) (.cons (.asg (.nm 4) (.k (.str " !\"#$&'()*+,-./0123456789:;<=>?@ABCDEFGHIJKLMNOPQRSTUVWXYZ[\\]^_`abcdefghijklmnopqrstuvwxyz{|}~")))
    (.cons (.asg (.nm 3) (.call "_law_draw" (.cons (.v 0) (.cons (.bin .Add (.bi .len (.cons (.v 1) .nil)) (.k (.int 1))) .nil))))
    (.cons (.asg (.nm 5) (.ix (.v 4) (.call "_law_draw" (.cons (.v 0) (.cons (.k (.int 94)) .nil)))))
    (.cons (.ret (.ix (.lst (.cons (.bin .Add (.bin .Add (.sl false true (.v 1) (.cons (.v 3) .nil)) (.v 5)) (.sl true false (.v 1) (.cons (.v 3) .nil))) (.cons (.bin .Add (.sl false true (.v 1) (.cons (.v 3) .nil)) (.sl true false (.v 1) (.cons (.bin .Add (.v 3) (.k (.int 1))) .nil))) (.cons (.bin .Add (.bin .Add (.sl false true (.v 1) (.cons (.v 3) .nil)) (.v 5)) (.sl true false (.v 1) (.cons (.bin .Add (.v 3) (.k (.int 1))) .nil))) (.cons (.bin .Add (.v 1) (.sl true false (.k (.str "abcdefgh")) (.cons (.call "_law_draw" (.cons (.v 0) (.cons (.k (.int 8)) .nil))) .nil))) .nil))))) (.bin .Mod (.v 2) (.k (.int 4)))))
    .nil)))) .nil)
    (.cons (.ifs (.and (.isa .int (.v 1)) (.not (.isa .bool (.v 1)))) (.cons (.ret (.ix (.lst (.cons (.bin .Add (.v 1) (.k (.int 1))) (.cons (.bin .Sub (.v 1) (.k (.int 1))) (.cons (.neg (.v 1)) (.cons (.k (.int 0)) (.cons (.cmp .Eq (.v 1) (.k (.int 1))) (.cons (.bi .str (.cons (.v 1) .nil)) (.cons (.bin .Add (.v 1) (.bin .Pow (.k (.int 10)) (.k (.int 20)))) (.cons (.tup (.cons (.v 1) .nil)) .nil))))))))) (.v 2)))
    .nil) .nil)
    (.cons (.ifs (.not (.isa .tuple (.v 1))) (.cons (.ret (.call "_law_odd" (.cons (.v 0) .nil)))
    .nil) .nil)
    (.cons (.asg (.nm 3) (.call "_law_draw" (.cons (.v 0) (.cons (.bin .Add (.bi .len (.cons (.v 1) .nil)) (.k (.int 1))) .nil))))
    (.cons (.ifs (.and (.cmp .Lt (.v 2) (.k (.int 4))) (.cmp .Lt (.v 3) (.bi .len (.cons (.v 1) .nil)))) (.cons (.ret (.bin .Add (.bin .Add (.sl false true (.v 1) (.cons (.v 3) .nil)) (.tup (.cons (.call "_law_bent" (.cons (.v 0) (.cons (.ix (.v 1) (.v 3)) .nil))) .nil))) (.sl true false (.v 1) (.cons (.bin .Add (.v 3) (.k (.int 1))) .nil))))
    .nil) .nil)
    (.cons (.ifs (.cmp .Eq (.v 2) (.k (.int 4))) (.cons (.ret (.bin .Add (.sl false true (.v 1) (.cons (.v 3) .nil)) (.sl true false (.v 1) (.cons (.bin .Add (.v 3) (.k (.int 1))) .nil))))
    .nil) .nil)
    (.cons (.ifs (.cmp .Eq (.v 2) (.k (.int 5))) (.cons (.ret (.bin .Add (.bin .Add (.sl false true (.v 1) (.cons (.v 3) .nil)) (.sl true true (.v 1) (.cons (.v 3) (.cons (.bin .Add (.v 3) (.k (.int 1))) .nil)))) (.sl true false (.v 1) (.cons (.v 3) .nil))))
    .nil) .nil)
    (.cons (.ifs (.cmp .Eq (.v 2) (.k (.int 6))) (.cons (.ret (.ix (.lst (.cons (.bi .list (.cons (.v 1) .nil)) (.cons (.bin .Add (.bin .Add (.sl false true (.v 1) (.cons (.v 3) .nil)) (.tup (.cons (.call "_law_odd" (.cons (.v 0) .nil)) .nil))) (.sl true false (.v 1) (.cons (.bin .Add (.v 3) (.k (.int 1))) .nil))) .nil))) (.call "_law_draw" (.cons (.v 0) (.cons (.k (.int 2)) .nil)))))
    .nil) .nil)
    (.cons (.ret (.bin .Add (.bin .Add (.sl false true (.v 1) (.cons (.v 3) .nil)) (.rev (.sl true true (.v 1) (.cons (.v 3) (.cons (.bin .Add (.v 3) (.k (.int 2))) .nil))))) (.sl true false (.v 1) (.cons (.bin .Add (.v 3) (.k (.int 2))) .nil))))
    .nil))))))))))
def Xi:PDef:=⟨6,2,[],true,false,B_law_bent⟩
def Z2 (R_bent:(Addr→D→PT D))(pen:Addr)(thing:D):PT D:=(PT.bind (Zs pen (8:Int)) (fun way_2=>(PT.as ((nO thing=true)) (if(isaV .str thing)=true then(PT.bind (PT.ret (" !\"#$&'()*+,-./0123456789:;<=>?@ABCDEFGHIJKLMNOPQRSTUVWXYZ[\\]^_`abcdefghijklmnopqrstuvwxyz{|}~" : Str)) (fun signs_8=>(PT.bind (PT.as ((Wx thing)) (Zs pen ((lenV thing)+(1:Int)))) (fun at_10=>(PT.bind (PT.bind (PT.ret signs_8) (fun u14=>(PT.bind (Zs pen (94:Int)) (fun v15=>(PT.as ((u14.length≤sizeLine∧(ixD u14.cps.toList v15).isSome=true)) (PT.ret (Qs u14 v15))))))) (fun sign_16=>(PT.bind (PT.bind (PT.bind (PT.bind (PT.as ((slOk thing none (some at_10))∧(ZB .Add (slV thing none (some at_10)) (D.str sign_16))∧(slOk thing (some at_10) none)∧(ZB .Add (binV .Add (slV thing none (some at_10)) (D.str sign_16)) (slV thing (some at_10) none))) (PT.ret (binV .Add (binV .Add (slV thing none (some at_10)) (D.str sign_16)) (slV thing (some at_10) none)))) (fun a0=>(PT.bind (PT.bind (PT.as ((slOk thing none (some at_10))∧(slOk thing (some (at_10+(1:Int))) none)∧(ZB .Add (slV thing none (some at_10)) (slV thing (some (at_10+(1:Int))) none))) (PT.ret (binV .Add (slV thing none (some at_10)) (slV thing (some (at_10+(1:Int))) none)))) (fun a1=>(PT.bind (PT.bind (PT.as ((slOk thing none (some at_10))∧(ZB .Add (slV thing none (some at_10)) (D.str sign_16))∧(slOk thing (some (at_10+(1:Int))) none)∧(ZB .Add (binV .Add (slV thing none (some at_10)) (D.str sign_16)) (slV thing (some (at_10+(1:Int))) none))) (PT.ret (binV .Add (binV .Add (slV thing none (some at_10)) (D.str sign_16)) (slV thing (some (at_10+(1:Int))) none)))) (fun a2=>(PT.bind (PT.bind (PT.bind (PT.ret thing) (fun u30=>(PT.bind (PT.bind (PT.ret ("abcdefgh" : Str)) (fun u28=>(PT.bind (Zs pen (8:Int)) (fun v29=>(PT.as ((u28.length≤sizeLine)) (PT.ret (ZT u28 (some v29) none))))))) (fun v31=>(PT.as ((ZB .Add u30 (D.str v31))) (PT.ret (binV .Add u30 (D.str v31)))))))) (fun a3=>(PT.bind (PT.ret ()) (fun b3=>(PT.ret (a3,b3)))))) (fun b2=>(PT.ret (a2,b2)))))) (fun b1=>(PT.ret (a1,b1)))))) (fun b0=>(PT.ret (a0,b0)))))) (fun z32=>(PT.ret [z32.1,z32.2.1,z32.2.2.1,z32.2.2.2.1]))) (fun u35=>(PT.bind (PT.ret (way_2 % (4:Int))) (fun v36=>(PT.as (((ixD u35 v36).isSome=true)) (PT.ret ((ixD u35 v36).getD default))))))) (fun u37=>(PT.ret u37))))))))) else(PT.as ((nO thing=true)∧((isaV .int thing)=true→(nO thing=true))) (if((isaV .int thing) && (!(isaV .bool thing)))=true then(PT.bind (PT.as ((thing=D.int (ZP thing))∧(thing=D.int (ZP thing))∧(thing=D.int (ZP thing))∧(VV .Eq thing (D.int (1:Int)))∧(strOk thing)∧(thing=D.int (ZP thing))∧((ixD ([(D.int ((ZP thing)+(1:Int))),(D.int ((ZP thing) - (1:Int))),(D.int (-(ZP thing))),(D.int (0:Int)),(D.bl (cmpV .Eq thing (D.int (1:Int)))),(strV thing),(D.int ((ZP thing)+(100000000000000000000:Int))),((eP1 id) thing)]) way_2).isSome=true)) (PT.ret ((ixD ([(D.int ((ZP thing)+(1:Int))),(D.int ((ZP thing) - (1:Int))),(D.int (-(ZP thing))),(D.int (0:Int)),(D.bl (cmpV .Eq thing (D.int (1:Int)))),(strV thing),(D.int ((ZP thing)+(100000000000000000000:Int))),((eP1 id) thing)]) way_2).getD default))) (fun u44=>(PT.ret u44))) else(PT.as ((nO thing=true)) (if(!(isaV .tuple thing))=true then(PT.bind (Yv pen) (fun u49=>(PT.ret u49))) else(PT.bind (PT.as ((Wx thing)) (Zs pen ((lenV thing)+(1:Int)))) (fun at_51=>(PT.as (((decide (way_2<(4:Int)))=true→(Wx thing))) (if((decide (way_2<(4:Int))) && (decide (at_51<(lenV thing))))=true then(PT.bind (PT.bind (PT.bind (PT.as ((slOk thing none (some at_51))) (PT.ret (slV thing none (some at_51)))) (fun u60=>(PT.bind (PT.bind (PT.bind (PT.as ((ixOk thing (D.int at_51))) (R_bent pen (ixV thing (D.int at_51)))) (fun a0=>(PT.bind (PT.ret ()) (fun b0=>(PT.ret (a0,b0)))))) (fun z59=>(PT.ret z59.1))) (fun v61=>(PT.as ((ZB .Add u60 ((eP1 id) v61))) (PT.ret (binV .Add u60 ((eP1 id) v61)))))))) (fun u64=>(PT.bind (PT.as ((slOk thing (some (at_51+(1:Int))) none)) (PT.ret (slV thing (some (at_51+(1:Int))) none))) (fun v65=>(PT.as ((ZB .Add u64 v65)) (PT.ret (binV .Add u64 v65))))))) (fun u66=>(PT.ret u66))) else(PT.as (True) (if(decide (way_2=(4:Int)))=true then(PT.bind (PT.as ((slOk thing none (some at_51))∧(slOk thing (some (at_51+(1:Int))) none)∧(ZB .Add (slV thing none (some at_51)) (slV thing (some (at_51+(1:Int))) none))) (PT.ret (binV .Add (slV thing none (some at_51)) (slV thing (some (at_51+(1:Int))) none)))) (fun u72=>(PT.ret u72))) else(PT.as (True) (if(decide (way_2=(5:Int)))=true then(PT.bind (PT.as ((slOk thing none (some at_51))∧(slOk thing (some at_51) (some (at_51+(1:Int))))∧(ZB .Add (slV thing none (some at_51)) (slV thing (some at_51) (some (at_51+(1:Int)))))∧(slOk thing (some at_51) none)∧(ZB .Add (binV .Add (slV thing none (some at_51)) (slV thing (some at_51) (some (at_51+(1:Int))))) (slV thing (some at_51) none))) (PT.ret (binV .Add (binV .Add (slV thing none (some at_51)) (slV thing (some at_51) (some (at_51+(1:Int))))) (slV thing (some at_51) none)))) (fun u78=>(PT.ret u78))) else(PT.as (True) (if(decide (way_2=(6:Int)))=true then(PT.bind (PT.bind (PT.bind (PT.bind (PT.bind (PT.as ((Zgs thing)) (PT.ret (seqV thing))) (fun u94=>(PT.ret ((eL id) u94)))) (fun a0=>(PT.bind (PT.bind (PT.bind (PT.bind (PT.as ((slOk thing none (some at_51))) (PT.ret (slV thing none (some at_51)))) (fun u88=>(PT.bind (PT.bind (PT.bind (Yv pen) (fun a0=>(PT.bind (PT.ret ()) (fun b0=>(PT.ret (a0,b0)))))) (fun z87=>(PT.ret z87.1))) (fun v89=>(PT.as ((ZB .Add u88 ((eP1 id) v89))) (PT.ret (binV .Add u88 ((eP1 id) v89)))))))) (fun u92=>(PT.bind (PT.as ((slOk thing (some (at_51+(1:Int))) none)) (PT.ret (slV thing (some (at_51+(1:Int))) none))) (fun v93=>(PT.as ((ZB .Add u92 v93)) (PT.ret (binV .Add u92 v93))))))) (fun a1=>(PT.bind (PT.ret ()) (fun b1=>(PT.ret (a1,b1)))))) (fun b0=>(PT.ret (a0,b0)))))) (fun z95=>(PT.ret [z95.1,z95.2.1]))) (fun u97=>(PT.bind (Zs pen (2:Int)) (fun v98=>(PT.as (((ixD u97 v98).isSome=true)) (PT.ret ((ixD u97 v98).getD default))))))) (fun u99=>(PT.ret u99))) else(PT.bind (PT.as ((slOk thing none (some at_51))∧(slOk thing (some at_51) (some (at_51+(2:Int))))∧(Zgh (slV thing (some at_51) (some (at_51+(2:Int)))))∧(ZB .Add (slV thing none (some at_51)) (revV (slV thing (some at_51) (some (at_51+(2:Int))))))∧(slOk thing (some (at_51+(2:Int))) none)∧(ZB .Add (binV .Add (slV thing none (some at_51)) (revV (slV thing (some at_51) (some (at_51+(2:Int)))))) (slV thing (some (at_51+(2:Int))) none))) (PT.ret (binV .Add (binV .Add (slV thing none (some at_51)) (revV (slV thing (some at_51) (some (at_51+(2:Int)))))) (slV thing (some (at_51+(2:Int))) none)))) (fun u102=>(PT.ret u102)))))))))))))))))))))
theorem ZeE {T:Vw.Tab}(h:T.df "" "_law_bent" = some Xi) (iS_law_draw:YG T) (iS_law_odd:XZ T) (n:Nat) (R_bent:(Addr→D→PT D)) (iR_bent:∀(pen:Addr) (thing:D) (w:W) (Q:QW) (P:D→W→Prop),R_bent pen thing w P→(∀v w',P v w'→Q v w')→cX T (n+1) "" "_law_bent" [(D.obj pen),thing] w Q):∀(pen:Addr) (thing:D) (w:W) (Q:QW) (P:D→W→Prop),(Z2 R_bent) pen thing w P→(∀v w',P v w'→Q v w')→cX T (n+2) "" "_law_bent" [(D.obj pen),thing] w Q:=fun pen thing w Q P z m=>sq_of (f:=id) h rfl rfl
 (V2 (ZC (ρ':=[some (false,(D.obj pen)),some (false,thing),none,none,none,none]) rfl (Z1 (f:=D.int) rfl (ZI (g:=D.int) (Y:=Zs pen (8:Int)) (fun w=>(Zc (j_v rfl) (Zc j_k Zf))) (fun w Q P q m=>iS_law_draw (n+1) pen (8:Int) w Q P q m)) (fun _=>ZK) (fun way_2=>(ZC (ρ':=[some (false,(D.obj pen)),some (false,thing),some (false,(D.int way_2)),none,none,none]) rfl (WH ((nO thing=true)) (isaV .str thing) (fun k4 w=>(ZaK (j_v rfl) (Za9 k4))) (fun w=>rfl) (Z1 (f:=D.str) rfl (Yf (f:=D.str) (" !\"#$&'()*+,-./0123456789:;<=>?@ABCDEFGHIJKLMNOPQRSTUVWXYZ[\\]^_`abcdefghijklmnopqrstuvwxyz{|}~" : Str) (fun w=>j_k)) (fun _=>ZK) (fun signs_8=>(ZC (ρ':=[some (false,(D.obj pen)),some (false,thing),some (false,(D.int way_2)),none,some (false,(D.str signs_8)),none]) rfl (Z1 (f:=D.int) rfl (Zab (g:=D.int) (Y:=Zs pen ((lenV thing)+(1:Int))) ((Wx thing)) (fun k9 w=>(Zc (j_v rfl) (Zc (ZH (o:=.Add) (x:=(D.int (lenV thing))) (y:=(D.int (1:Int))) (j_bi (Zc (j_v rfl) Zf) (ZgD k9)) j_k rfl) Zf))) (fun w Q P q m=>iS_law_draw (n+1) pen ((lenV thing)+(1:Int)) w Q P q m)) (fun _=>ZK) (fun at_10=>(ZC (ρ':=[some (false,(D.obj pen)),some (false,thing),some (false,(D.int way_2)),some (false,(D.int at_10)),some (false,(D.str signs_8)),none]) rfl (Z1 (f:=D.str) rfl (Qu (k:=D.str) (f:=D.str) (g:=D.int) (fun(u14:Str) (v15:Int)=>(u14.length≤sizeLine∧(ixD u14.cps.toList v15).isSome=true)) (fun(u14:Str) (v15:Int)=>(Qs u14 v15)) (Yf (f:=D.str) signs_8 (fun w=>(j_v rfl))) (ZI (g:=D.int) (Y:=Zs pen (94:Int)) (fun w=>(Zc (j_v rfl) (Zc j_k Zf))) (fun w Q P q m=>iS_law_draw (n+1) pen (94:Int) w Q P q m)) (fun S (u14:Str) (v15:Int) ok=>(Zm8 ok))) (fun _=>ZK) (fun sign_16=>(ZC (ρ':=[some (false,(D.obj pen)),some (false,thing),some (false,(D.int way_2)),some (false,(D.int at_10)),some (false,(D.str signs_8)),some (false,(D.str sign_16))]) rfl (Y2 (f:=id) (fun u37=>u37) rfl (Qu (k:=id) (f:=(eL id)) (g:=D.int) (fun(u35:(List D)) (v36:Int)=>((ixD u35 v36).isSome=true)) (fun(u35:(List D)) (v36:Int)=>((ixD u35 v36).getD default)) (Zdl (g:=(eL id)) 4 (fun(z32:D×D×D×D×Unit)=>[z32.1,z32.2.1,z32.2.2.1,z32.2.2.2.1]) (Z4 (f:=id) (Yq (f:=id) ((slOk thing none (some at_10))∧(ZB .Add (slV thing none (some at_10)) (D.str sign_16))∧(slOk thing (some at_10) none)∧(ZB .Add (binV .Add (slV thing none (some at_10)) (D.str sign_16)) (slV thing (some at_10) none))) (binV .Add (binV .Add (slV thing none (some at_10)) (D.str sign_16)) (slV thing (some at_10) none)) (fun k18 w=>(ZH (o:=.Add) (x:=(binV .Add (slV thing none (some at_10)) (D.str sign_16))) (y:=(slV thing (some at_10) none)) (ZH (o:=.Add) (x:=(slV thing none (some at_10))) (y:=(D.str sign_16)) (XI (j_v rfl) (j_v rfl) (v_sl k18.1)) (j_v rfl) (Y0 k18.2.1)) (Wb (j_v rfl) (j_v rfl) (v_sl k18.2.2.1)) (Y0 k18.2.2.2)))) (Z4 (f:=id) (Yq (f:=id) ((slOk thing none (some at_10))∧(slOk thing (some (at_10+(1:Int))) none)∧(ZB .Add (slV thing none (some at_10)) (slV thing (some (at_10+(1:Int))) none))) (binV .Add (slV thing none (some at_10)) (slV thing (some (at_10+(1:Int))) none)) (fun k20 w=>(ZH (o:=.Add) (x:=(slV thing none (some at_10))) (y:=(slV thing (some (at_10+(1:Int))) none)) (XI (j_v rfl) (j_v rfl) (v_sl k20.1)) (Wb (j_v rfl) (ZH (o:=.Add) (x:=(D.int at_10)) (y:=(D.int (1:Int))) (j_v rfl) j_k rfl) (v_sl k20.2.1)) (Y0 k20.2.2)))) (Z4 (f:=id) (Yq (f:=id) ((slOk thing none (some at_10))∧(ZB .Add (slV thing none (some at_10)) (D.str sign_16))∧(slOk thing (some (at_10+(1:Int))) none)∧(ZB .Add (binV .Add (slV thing none (some at_10)) (D.str sign_16)) (slV thing (some (at_10+(1:Int))) none))) (binV .Add (binV .Add (slV thing none (some at_10)) (D.str sign_16)) (slV thing (some (at_10+(1:Int))) none)) (fun k22 w=>(ZH (o:=.Add) (x:=(binV .Add (slV thing none (some at_10)) (D.str sign_16))) (y:=(slV thing (some (at_10+(1:Int))) none)) (ZH (o:=.Add) (x:=(slV thing none (some at_10))) (y:=(D.str sign_16)) (XI (j_v rfl) (j_v rfl) (v_sl k22.1)) (j_v rfl) (Y0 k22.2.1)) (Wb (j_v rfl) (ZH (o:=.Add) (x:=(D.int at_10)) (y:=(D.int (1:Int))) (j_v rfl) j_k rfl) (v_sl k22.2.2.1)) (Y0 k22.2.2.2)))) (Z4 (f:=id) (W2 (o:=.Add) (k:=id) (f:=id) (g:=D.str) (fun(u30:D) (v31:Str)=>(ZB .Add u30 (D.str v31))) (fun(u30:D) (v31:Str)=>(binV .Add u30 (D.str v31))) (Yf (f:=id) thing (fun w=>(j_v rfl))) (Zk9 (k:=D.str) (f:=D.str) (fun(u28:Str) (v29:Int)=>(u28.length≤sizeLine)) (fun(u28:Str) (v29:Int)=>(ZT u28 (some v29) none)) (Yf (f:=D.str) ("abcdefgh" : Str) (fun w=>j_k)) (ZI (g:=D.int) (Y:=Zs pen (8:Int)) (fun w=>(Zc (j_v rfl) (Zc j_k Zf))) (fun w Q P q m=>iS_law_draw (n+1) pen (8:Int) w Q P q m)) (fun S (u28:Str) (v29:Int) ok=>(Zh5 ok))) (fun S (u30:D) (v31:Str) ok=>(Y0 ok))) X1)))) (fun _=>rfl) sz_4 (fun _=>rfl)) (Yf (f:=D.int) (way_2 % (4:Int)) (fun w=>(ZH (o:=.Mod) (x:=(D.int way_2)) (y:=(D.int (4:Int))) (j_v rfl) j_k (mod_int (by decide))))) (fun S (u35:(List D)) (v36:Int) ok=>(ix_L (f:=id) ok))) (fun _=>rfl))))))))))) (Xk (WH ((nO thing=true)∧((isaV .int thing)=true→(nO thing=true))) ((isaV .int thing) && (!(isaV .bool thing))) (fun k40 w=>(ZfZ (ZaK (j_v rfl) (Za9 k40.1)) (fun h39=>(Zj0 (ZaK (j_v rfl) (Za9 (k40.2 h39))) rfl)))) (fun w=>rfl) (Y2 (f:=id) (fun u44=>u44) rfl (Yq (f:=id) ((thing=D.int (ZP thing))∧(thing=D.int (ZP thing))∧(thing=D.int (ZP thing))∧(VV .Eq thing (D.int (1:Int)))∧(strOk thing)∧(thing=D.int (ZP thing))∧((ixD ([(D.int ((ZP thing)+(1:Int))),(D.int ((ZP thing) - (1:Int))),(D.int (-(ZP thing))),(D.int (0:Int)),(D.bl (cmpV .Eq thing (D.int (1:Int)))),(strV thing),(D.int ((ZP thing)+(100000000000000000000:Int))),((eP1 id) thing)]) way_2).isSome=true)) ((ixD ([(D.int ((ZP thing)+(1:Int))),(D.int ((ZP thing) - (1:Int))),(D.int (-(ZP thing))),(D.int (0:Int)),(D.bl (cmpV .Eq thing (D.int (1:Int)))),(strV thing),(D.int ((ZP thing)+(100000000000000000000:Int))),((eP1 id) thing)]) way_2).getD default) (fun k43 w=>(j_ix (Xu (Zc (ZH (o:=.Add) (x:=(D.int (ZP thing))) (y:=(D.int (1:Int))) (j_eq (j_v rfl) k43.1) j_k rfl) (Zc (ZH (o:=.Sub) (x:=(D.int (ZP thing))) (y:=(D.int (1:Int))) (j_eq (j_v rfl) k43.2.1) j_k rfl) (Zc (Zf0 (j_eq (j_v rfl) k43.2.2.1)) (Zc j_k (Zc (WR (o:=.Eq) (x:=thing) (y:=(D.int (1:Int))) (j_v rfl) j_k (Zkd k43.2.2.2.1)) (Zc (j_bi (Zc (j_v rfl) Zf) (Zp3 k43.2.2.2.2.1)) (Zc (ZH (o:=.Add) (x:=(D.int (ZP thing))) (y:=(D.int (100000000000000000000:Int))) (j_eq (j_v rfl) k43.2.2.2.2.2.1) (ZH (o:=.Pow) (x:=(D.int (10:Int))) (y:=(D.int (20:Int))) j_k j_k (Zgg (k:=(100000000000000000000:Int)) (by decide +kernel))) rfl) (Zc (Z3 (Zc (j_v rfl) Zf) sz_1) Zf)))))))) sz_8) (j_v rfl) (ix_L (f:=id) k43.2.2.2.2.2.2)))) (fun _=>rfl)) (Xk (WH ((nO thing=true)) (!(isaV .tuple thing)) (fun k46 w=>(Zj0 (ZaK (j_v rfl) (Za9 k46)) rfl)) (fun w=>rfl) (Y2 (f:=id) (fun u49=>u49) rfl (ZI (g:=id) (Y:=Yv pen) (fun w=>(Zc (j_v rfl) Zf)) (fun w Q P q m=>iS_law_odd n pen w Q P q m)) (fun _=>rfl)) (Xk (Z1 (f:=D.int) rfl (Zab (g:=D.int) (Y:=Zs pen ((lenV thing)+(1:Int))) ((Wx thing)) (fun k50 w=>(Zc (j_v rfl) (Zc (ZH (o:=.Add) (x:=(D.int (lenV thing))) (y:=(D.int (1:Int))) (j_bi (Zc (j_v rfl) Zf) (ZgD k50)) j_k rfl) Zf))) (fun w Q P q m=>iS_law_draw (n+1) pen ((lenV thing)+(1:Int)) w Q P q m)) (fun _=>ZK) (fun at_51=>(ZC (ρ':=[some (false,(D.obj pen)),some (false,thing),some (false,(D.int way_2)),some (false,(D.int at_51)),none,none]) rfl (WH (((decide (way_2<(4:Int)))=true→(Wx thing))) ((decide (way_2<(4:Int))) && (decide (at_51<(lenV thing)))) (fun k54 w=>(ZfZ (WR (o:=.Lt) (x:=(D.int way_2)) (y:=(D.int (4:Int))) (j_v rfl) j_k rfl) (fun h53=>(WR (o:=.Lt) (x:=(D.int at_51)) (y:=(D.int (lenV thing))) (j_v rfl) (j_bi (Zc (j_v rfl) Zf) (ZgD (k54 h53))) rfl)))) (fun w=>rfl) (Y2 (f:=id) (fun u66=>u66) rfl (W2 (o:=.Add) (k:=id) (f:=id) (g:=id) (fun(u64:D) (v65:D)=>(ZB .Add u64 v65)) (fun(u64:D) (v65:D)=>(binV .Add u64 v65)) (W2 (o:=.Add) (k:=id) (f:=id) (g:=(eP1 id)) (fun(u60:D) (v61:D)=>(ZB .Add u60 ((eP1 id) v61))) (fun(u60:D) (v61:D)=>(binV .Add u60 ((eP1 id) v61))) (Yq (f:=id) ((slOk thing none (some at_51))) (slV thing none (some at_51)) (fun k57 w=>(XI (j_v rfl) (j_v rfl) (v_sl k57)))) (Zho (g:=(eP1 id)) 1 (fun(z59:D×Unit)=>z59.1) (Z4 (f:=id) (Zab (g:=id) (Y:=R_bent pen (ixV thing (D.int at_51))) ((ixOk thing (D.int at_51))) (fun k58 w=>(Zc (j_v rfl) (Zc (j_ix (j_v rfl) (j_v rfl) (v_ix k58)) Zf))) (fun w Q P q m=>iR_bent pen (ixV thing (D.int at_51)) w Q P q m)) X1) (fun _=>rfl) sz_1 (fun _=>rfl)) (fun S (u60:D) (v61:D) ok=>(Y0 ok))) (Yq (f:=id) ((slOk thing (some (at_51+(1:Int))) none)) (slV thing (some (at_51+(1:Int))) none) (fun k63 w=>(Wb (j_v rfl) (ZH (o:=.Add) (x:=(D.int at_51)) (y:=(D.int (1:Int))) (j_v rfl) j_k rfl) (v_sl k63)))) (fun S (u64:D) (v65:D) ok=>(Y0 ok))) (fun _=>rfl)) (Xk (WH (True) (decide (way_2=(4:Int))) (fun k68 w=>(WR (o:=.Eq) (x:=(D.int way_2)) (y:=(D.int (4:Int))) (j_v rfl) j_k (ZaD (S:=w.S) (f:=D.int) (x:=way_2) (y:=(4:Int)) ZaH (by decide)))) (fun w=>rfl) (Y2 (f:=id) (fun u72=>u72) rfl (Yq (f:=id) ((slOk thing none (some at_51))∧(slOk thing (some (at_51+(1:Int))) none)∧(ZB .Add (slV thing none (some at_51)) (slV thing (some (at_51+(1:Int))) none))) (binV .Add (slV thing none (some at_51)) (slV thing (some (at_51+(1:Int))) none)) (fun k71 w=>(ZH (o:=.Add) (x:=(slV thing none (some at_51))) (y:=(slV thing (some (at_51+(1:Int))) none)) (XI (j_v rfl) (j_v rfl) (v_sl k71.1)) (Wb (j_v rfl) (ZH (o:=.Add) (x:=(D.int at_51)) (y:=(D.int (1:Int))) (j_v rfl) j_k rfl) (v_sl k71.2.1)) (Y0 k71.2.2)))) (fun _=>rfl)) (Xk (WH (True) (decide (way_2=(5:Int))) (fun k74 w=>(WR (o:=.Eq) (x:=(D.int way_2)) (y:=(D.int (5:Int))) (j_v rfl) j_k (ZaD (S:=w.S) (f:=D.int) (x:=way_2) (y:=(5:Int)) ZaH (by decide)))) (fun w=>rfl) (Y2 (f:=id) (fun u78=>u78) rfl (Yq (f:=id) ((slOk thing none (some at_51))∧(slOk thing (some at_51) (some (at_51+(1:Int))))∧(ZB .Add (slV thing none (some at_51)) (slV thing (some at_51) (some (at_51+(1:Int)))))∧(slOk thing (some at_51) none)∧(ZB .Add (binV .Add (slV thing none (some at_51)) (slV thing (some at_51) (some (at_51+(1:Int))))) (slV thing (some at_51) none))) (binV .Add (binV .Add (slV thing none (some at_51)) (slV thing (some at_51) (some (at_51+(1:Int))))) (slV thing (some at_51) none)) (fun k77 w=>(ZH (o:=.Add) (x:=(binV .Add (slV thing none (some at_51)) (slV thing (some at_51) (some (at_51+(1:Int)))))) (y:=(slV thing (some at_51) none)) (ZH (o:=.Add) (x:=(slV thing none (some at_51))) (y:=(slV thing (some at_51) (some (at_51+(1:Int))))) (XI (j_v rfl) (j_v rfl) (v_sl k77.1)) (Zhm (j_v rfl) (j_v rfl) (ZH (o:=.Add) (x:=(D.int at_51)) (y:=(D.int (1:Int))) (j_v rfl) j_k rfl) (v_sl k77.2.1)) (Y0 k77.2.2.1)) (Wb (j_v rfl) (j_v rfl) (v_sl k77.2.2.2.1)) (Y0 k77.2.2.2.2)))) (fun _=>rfl)) (Xk (WH (True) (decide (way_2=(6:Int))) (fun k80 w=>(WR (o:=.Eq) (x:=(D.int way_2)) (y:=(D.int (6:Int))) (j_v rfl) j_k (ZaD (S:=w.S) (f:=D.int) (x:=way_2) (y:=(6:Int)) ZaH (by decide)))) (fun w=>rfl) (Y2 (f:=id) (fun u99=>u99) rfl (Qu (k:=id) (f:=(eL id)) (g:=D.int) (fun(u97:(List D)) (v98:Int)=>((ixD u97 v98).isSome=true)) (fun(u97:(List D)) (v98:Int)=>((ixD u97 v98).getD default)) (Zdl (g:=(eL id)) 2 (fun(z95:D×D×Unit)=>[z95.1,z95.2.1]) (Z4 (f:=id) (Zne (f:=(eL id)) (Yq (f:=(eL id)) ((Zgs thing)) (seqV thing) (fun k83 w=>(j_bi (Zc (j_v rfl) Zf) (Zoe k83))))) (Z4 (f:=id) (W2 (o:=.Add) (k:=id) (f:=id) (g:=id) (fun(u92:D) (v93:D)=>(ZB .Add u92 v93)) (fun(u92:D) (v93:D)=>(binV .Add u92 v93)) (W2 (o:=.Add) (k:=id) (f:=id) (g:=(eP1 id)) (fun(u88:D) (v89:D)=>(ZB .Add u88 ((eP1 id) v89))) (fun(u88:D) (v89:D)=>(binV .Add u88 ((eP1 id) v89))) (Yq (f:=id) ((slOk thing none (some at_51))) (slV thing none (some at_51)) (fun k85 w=>(XI (j_v rfl) (j_v rfl) (v_sl k85)))) (Zho (g:=(eP1 id)) 1 (fun(z87:D×Unit)=>z87.1) (Z4 (f:=id) (ZI (g:=id) (Y:=Yv pen) (fun w=>(Zc (j_v rfl) Zf)) (fun w Q P q m=>iS_law_odd n pen w Q P q m)) X1) (fun _=>rfl) sz_1 (fun _=>rfl)) (fun S (u88:D) (v89:D) ok=>(Y0 ok))) (Yq (f:=id) ((slOk thing (some (at_51+(1:Int))) none)) (slV thing (some (at_51+(1:Int))) none) (fun k91 w=>(Wb (j_v rfl) (ZH (o:=.Add) (x:=(D.int at_51)) (y:=(D.int (1:Int))) (j_v rfl) j_k rfl) (v_sl k91)))) (fun S (u92:D) (v93:D) ok=>(Y0 ok))) X1)) (fun _=>rfl) sz_2 (fun _=>rfl)) (ZI (g:=D.int) (Y:=Zs pen (2:Int)) (fun w=>(Zc (j_v rfl) (Zc j_k Zf))) (fun w Q P q m=>iS_law_draw (n+1) pen (2:Int) w Q P q m)) (fun S (u97:(List D)) (v98:Int) ok=>(ix_L (f:=id) ok))) (fun _=>rfl)) (Xk (Y2 (f:=id) (fun u102=>u102) rfl (Yq (f:=id) ((slOk thing none (some at_51))∧(slOk thing (some at_51) (some (at_51+(2:Int))))∧(Zgh (slV thing (some at_51) (some (at_51+(2:Int)))))∧(ZB .Add (slV thing none (some at_51)) (revV (slV thing (some at_51) (some (at_51+(2:Int))))))∧(slOk thing (some (at_51+(2:Int))) none)∧(ZB .Add (binV .Add (slV thing none (some at_51)) (revV (slV thing (some at_51) (some (at_51+(2:Int)))))) (slV thing (some (at_51+(2:Int))) none))) (binV .Add (binV .Add (slV thing none (some at_51)) (revV (slV thing (some at_51) (some (at_51+(2:Int)))))) (slV thing (some (at_51+(2:Int))) none)) (fun k101 w=>(ZH (o:=.Add) (x:=(binV .Add (slV thing none (some at_51)) (revV (slV thing (some at_51) (some (at_51+(2:Int))))))) (y:=(slV thing (some (at_51+(2:Int))) none)) (ZH (o:=.Add) (x:=(slV thing none (some at_51))) (y:=(revV (slV thing (some at_51) (some (at_51+(2:Int)))))) (XI (j_v rfl) (j_v rfl) (v_sl k101.1)) (Zj1 (Zhm (j_v rfl) (j_v rfl) (ZH (o:=.Add) (x:=(D.int at_51)) (y:=(D.int (2:Int))) (j_v rfl) j_k rfl) (v_sl k101.2.1)) (Zp2 k101.2.2.1)) (Y0 k101.2.2.2.1)) (Wb (j_v rfl) (ZH (o:=.Add) (x:=(D.int at_51)) (y:=(D.int (2:Int))) (j_v rfl) j_k rfl) (v_sl k101.2.2.2.2.1)) (Y0 k101.2.2.2.2.2)))) (fun _=>rfl))))))))))))))))))))))) rfl) w Q P z m
def Q2:Nat→(Addr→D→PT D)
 | 0=>((fun _ _=>PT.as False (PT.ret default)))
 | m+1=>(Z2 (Q2 m))
def Z9 (m:Nat)(pen:Addr)(thing:D):PT D:=(Q2 m) pen thing
theorem UW (m:Nat)(pen:Addr)(thing:D):Z9 (m+1) pen thing=Z2 (Z9 m) pen thing:=rfl
theorem ZeP {T:Vw.Tab}(h__law_bent:T.df "" "_law_bent" = some Xi) (iS_law_draw:YG T) (iS_law_odd:XZ T):∀(m n:Nat),(∀(pen:Addr) (thing:D) (w:W) (Q:QW) (P:D→W→Prop),Z9 m pen thing w P→(∀v w',P v w'→Q v w')→cX T (n+1+m) "" "_law_bent" [(D.obj pen),thing] w Q):=by
 intro m
 induction m with
 | zero=>intro n;exact fun pen thing w Q P z m=>z.1.elim
 | succ m ih=>
   intro n
   have e:n+1+(m+1)=(n+m)+2:=by omega
   have e2:n+1+m=(n+m)+1:=by omega
   rw[e]
   have I:=ih n;rw[e2] at I
   exact ZeE h__law_bent iS_law_draw iS_law_odd (n+m) _ I
def VN (T:Vw.Tab):Prop:=∀n:Nat,∀(pen:Addr) (thing:D) (w:W) (Q:QW) (P:D→W→Prop),Z9 20 pen thing w P→(∀v w',P v w'→Q v w')→cX T (n+21) "" "_law_bent" [(D.obj pen),thing] w Q
theorem Zgm {T:Vw.Tab}(h__law_bent:T.df "" "_law_bent" = some Xi) (iS_law_draw:YG T) (iS_law_odd:XZ T):VN T:=fun n=>(ZeP h__law_bent iS_law_draw iS_law_odd 20 n)
end
end Vw
namespace Vw
open PySem Sw
end Vw
namespace Vw
open PySem Sw
namespace Bn
theorem VW (x:Str)(lo hi:Option Int):(ZT x lo hi).length≤x.length:=by
 show(cutD x.cps.toList lo hi).toArray.size≤x.cps.size
 have:(cutD x.cps.toList lo hi).length≤x.cps.toList.length:=by unfold cutD;rw[List.length_take,List.length_drop];omega
 simpa using this
theorem sl_str {x:Str}{lo hi:Option Int}(h:x.length≤1000000):slOk (.str x) lo hi∧slV (.str x) lo hi=.str (ZT x lo hi):=by
 have e:slOf V0 (.str x) lo hi=some (.str (ZT x lo hi)):=Zh5 (Zk h)
 unfold slOk slV
 rw[e];exact⟨rfl,rfl⟩
theorem Vm {x y:Str}(h:x.length+y.length≤1000000):ZB .Add (.str x) (.str y)∧binV .Add (.str x) (.str y)=.str (x++y):=by
 have e:binD .Add V0 (.str x) (.str y)=some (.str (x++y)):=add_str (Zk h)
 unfold ZB binV
 rw[e];exact⟨rfl,rfl⟩
theorem X0 (x y:Str):(x++y).length=x.length+y.length:=by
 show(x.cps++y.cps).size=x.cps.size+y.cps.size
 simp
theorem sl_tup {ds:List D}{lo hi:Option Int}:slOk (.tup ds) lo hi∧slV (.tup ds) lo hi=.tup (cutD ds lo hi):=⟨rfl,rfl⟩
theorem Zbe {xs ys:List D}(h:xs.length+ys.length≤1000000):ZB .Add (.tup xs) (.tup ys)∧binV .Add (.tup xs) (.tup ys)=.tup (xs++ys):=by
 have e:binD .Add V0 (.tup xs) (.tup ys)=some (.tup (xs++ys)):=by
  show(if xs.length+ys.length≤sizeLine then _ else _)=_
  rw[if_pos (Zk h)]
 unfold ZB binV
 rw[e];exact⟨rfl,rfl⟩
theorem ZiM {ds:List D}{lo hi:Option Int}{d:D}(h:d∈cutD ds lo hi):d∈ds:=by
 unfold cutD at h;exact List.mem_of_mem_drop (List.mem_of_mem_take h)
theorem ZiL (ds:List D)(lo hi:Option Int):(cutD ds lo hi).length≤ds.length:=by
 unfold cutD;rw[List.length_take,List.length_drop];omega
abbrev wt (d:D):Nat:=d.toQ.weight
abbrev wts (ds:List D):Nat:=PyData.weightAll (D.toQs ds)
abbrev dp (d:D):Nat:=d.toQ.depth
abbrev dps (ds:List D):Nat:=PyData.depthAll (D.toQs ds)
structure Bd (B w h:Nat)(d:D):Prop where
 fit:d.fit B=true
 w8:wt d≤w
 d8:dp d≤h
theorem Bd.up {B w h B' w' h':Nat}{d:D}(k:Bd B w h d)(h1:B≤B')(h2:w≤w')(h3:h≤h'):Bd B' w' h' d:=
 ⟨VZ h1 d k.fit,Nat.le_trans k.w8 h2,Nat.le_trans k.d8 h3⟩
theorem Bd.repr {B w h:Nat}{d:D}(k:Bd B w h d)(h1:B≤10 ^ 62)(h2:w≤40000)(h3:h≤64):Y4 d:=
 ZaY (w:=w) (h:=h) ⟨VZ h1 d k.fit,k.w8,k.d8⟩ h2 h3
theorem Bd.deep {B w h:Nat}{d:D}(k:Bd B w h d)(h2:w≤1000000):d.deep=true:=Zdc d k.fit (Nat.le_trans k.w8 h2)
theorem ZmQ {B:Nat}{d:D}(k:d.fit B=true):nO d=true:=by cases d <;> first | rfl | (rw[D.fit] at k;cases k)
theorem Bd.nO {B w h:Nat}{d:D}(k:Bd B w h d):nO d=true:=ZmQ k.fit
theorem X3:∀(a b:List D),wts (a++b)=wts a+wts b
 | [],b=>by show wts b=0+wts b;omega
 | d :: r,b=>by
   have:=X3 r b
   show wt d+1+wts (r++b)=wt d+1+wts r+wts b
   omega
theorem ZbA:∀(a:List D),wts a.reverse=wts a
 | []=>rfl
 | d :: r=>by
   rw[List.reverse_cons,X3,ZbA r]
   show wts r+(wt d+1+0)=wt d+1+wts r
   omega
theorem Ql (a:List D)(i:Nat):wts (a.take i)+wts (a.drop i)=wts a:=by rw[← X3,List.take_append_drop]
theorem ZfD {d:D}:∀ {a:List D},d∈a→wt d+1≤wts a
 | x :: r,h=>by
   rcases List.mem_cons.mp h with rfl | h
   · show wt d+1≤wt d+1+wts r;omega
   · have:=ZfD h
     show wt d+1≤wt x+1+wts r;omega
theorem ZcY {n:Nat}:∀ {ds:List D},(∀d∈ds,dp d≤n)→dps ds≤n
 | [],_=>Nat.zero_le _
 | d :: r,h=>by
   have h1:=h d (by simp)
   have h2:=ZcY (n:=n) (ds:=r) fun x hx=>h x (List.mem_cons_of_mem _ hx)
   show max (dp d) (dps r)≤n
   omega
theorem Ze2 {d:D}:∀ {a:List D},d∈a→dp d≤dps a
 | x :: r,h=>by
   rcases List.mem_cons.mp h with rfl | h
   · show dp d≤max (dp d) (dps r);omega
   · have:=Ze2 h
     show dp d≤max (dp x) (dps r);omega
theorem Zbz (ds:List D):ds.length≤wts ds:=Vh ds
theorem Bd.part {B w h:Nat}{ds:List D}(k:Bd B w h (.tup ds)):∀d∈ds,Bd B (wt d) (h - 1) d∧1≤h∧wt d+1≤w:=fun d hd=>by
 have k1:=k.fit
 rw[D.fit,V1] at k1
 have k2:wts ds≤w:=k.w8
 have k3:dps ds+1≤h:=k.d8
 have:=Ze2 hd
 have:=ZfD hd
 exact⟨⟨k1 d hd,Nat.le_refl _,by omega⟩,by omega,by omega⟩
theorem Bd.tup {B w h:Nat}{ds:List D}(hf:∀d∈ds,d.fit B=true∧dp d≤h)(hw:wts ds≤w):Bd B w (h+1) (.tup ds):=
 ⟨by rw[D.fit,V1];exact fun d hd=>(hf d hd).1,hw,by
  have:=ZcY (n:=h) fun d hd=>(hf d hd).2
  show dps ds+1≤h+1;omega⟩
theorem Bd.lst {B w h:Nat}{ds:List D}(hf:∀d∈ds,d.fit B=true∧dp d≤h)(hw:wts ds≤w):Bd B w (h+1) (.lst ds):=
 ⟨by rw[D.fit,V1];exact fun d hd=>(hf d hd).1,hw,by
  have:=ZcY (n:=h) fun d hd=>(hf d hd).2
  show dps ds+1≤h+1;omega⟩
abbrev asc (x:Str):Prop:=(x.cps.toList.all fun c=>decide (c<128))=true
theorem Bd.str {B h:Nat}{x:Str}{w:Nat}(ha:asc x)(hw:x.length≤w):Bd B w h (.str x):=⟨by rw[D.fit];exact ha,hw,Nat.zero_le _⟩
theorem Znp {i:Int}{k:Nat}(h:i.natAbs<2 ^ k):wt (.int i)≤k+1:=by
 show PyData.weight (.int i)≤k+1
 rw[PyData.weight]
 split
 · omega
 · next hz=>
   have hn:i.natAbs≠0:=fun z=>hz (by simp;omega)
   have:=(Nat.log2_lt hn).mpr h
   omega
theorem Bd.int {B h w:Nat}{i:Int}(hi:i.natAbs≤B)(hB:B≤10 ^ 62)(hw:300≤w):Bd B w h (.int i):=
 ⟨by rw[D.fit];exact decide_eq_true hi,Nat.le_trans (Znp (k:=210) (Nat.lt_of_le_of_lt (Nat.le_trans hi hB) (by decide +kernel))) (by omega),Nat.zero_le _⟩
theorem Bd.bl {B h w:Nat}(b:Bool):Bd B w h (.bl b):=⟨rfl,Nat.zero_le _,Nat.zero_le _⟩
theorem asc_app {x y:Str}(hx:asc x)(hy:asc y):asc (x++y):=by
 have e:(x++y).cps.toList=x.cps.toList++y.cps.toList:=by
  show(x.cps++y.cps).toList=_
  simp
 unfold asc;rw[e,List.all_append,hx,hy];rfl
theorem ZeX {x:Str}(hx:asc x)(lo hi:Option Int):asc (ZT x lo hi):=by
 have e:(ZT x lo hi).cps.toList=cutD x.cps.toList lo hi:=by
  show(cutD x.cps.toList lo hi).toArray.toList=_
  simp
 unfold asc;rw[e,List.all_eq_true]
 intro c hc
 refine List.all_eq_true.mp hx c ?_
 unfold cutD at hc;exact List.mem_of_mem_drop (List.mem_of_mem_take hc)
theorem Zl6 {x:Str}(hx:asc x){i:Int}(h0:0≤i)(h1:i<x.cps.toList.length):asc (Qs x i):=by
 have:(ixD x.cps.toList i).getD default∈x.cps.toList:=WF h0 h1
 show([_].all _)=true
 rw[List.all_cons,List.all_nil,Bool.and_true]
 exact List.all_eq_true.mp hx _ this
theorem Zku (i:Int):asc (toString i:String):=by
 unfold asc
 rw[PySem.Str.ofString_eq_toList]
 show(((toString i).toList.map Char.toNat).toArray.toList.all _)=true
 rw[List.all_eq_true]
 intro c hc
 simp only[List.mem_map] at hc
 obtain⟨ch,h1,rfl⟩:=hc
 refine decide_eq_true ?_
 rcases PyProof.Rows.int_sign i ch h1 with h | rfl
 · have:=PyProof.Rows.digit_range h;omega
 · decide
def oddL:List D:=[((eO (fun x:Unit=>D.non)) none),(D.bl true),(D.bl false),(D.int (0:Int)),(D.int (1:Int)),(D.int (-(1:Int))),(D.int (7:Int)),(D.int (21:Int)),(D.int (61:Int)),(D.int (100000000000000000000000000000000000000000000000000000000000:Int)),(D.int (-(100000000000000000000000000000000000000000000000000000000000:Int))),(D.str ("" : Str)),(D.str ("a" : Str)),(D.str ("A" : Str)),(D.str ("a1" : Str)),(D.str ("abcdefghi" : Str)),(D.str ("abcdefgh" : Str))]++[((eT (fun x:Unit=>D.non)) ([])),((eL (fun x:Unit=>D.non)) ([])),((eM (fun x:Unit=>D.non)) ([])),((eP1 D.str) ("a" : Str)),((eL D.str) ([("a" : Str)])),((eP2 D.str D.int) (("a" : Str),(1:Int))),((eL id) ([(D.str ("a" : Str)),(D.int (1:Int))])),((eP3 D.str D.int D.int) (("a" : Str),(1:Int),(2:Int))),((eP1 (eP2 D.str D.int)) (("a" : Str),(1:Int))),((eP1 (eT (fun x:Unit=>D.non))) ([])),((eL (eL (fun x:Unit=>D.non))) ([[]])),(D.dic ([("a" : Str)].map Sum.inr) [(D.int (1:Int))])]++[((eP2 (eP1 (eP1 (eP2 D.str D.int))) D.int) ((("a" : Str),(1:Int)),(0:Int))),((eP2 (eL (eP1 (eP2 D.str D.int))) D.int) ([(("a" : Str),(1:Int))],(0:Int))),((eP4 D.str D.int D.int D.int) (("a" : Str),(1:Int),(0:Int),(1:Int))),((eP2 D.str (eP1 D.str)) (("a" : Str),("a" : Str))),((eP4 D.int (eT (fun x:Unit=>D.non)) (eT (fun x:Unit=>D.non)) (eT (fun x:Unit=>D.non))) ((1:Int),[],[],[]))]
theorem Zlm:∀d∈oddL,Bd (10 ^ 59) 400 4 d:=by
 have:oddL.all (fun d=>d.fit (10 ^ 59) && (decide (wt d≤400) && decide (dp d≤4)))=true:=by decide +kernel
 intro d hd
 have:=List.all_eq_true.mp this d hd
 simp only[Bool.and_eq_true,decide_eq_true_eq] at this
 exact⟨this.1,this.2.1,this.2.2⟩
theorem ZdX {p:Addr}:Sp p 1 (Yv p) (Bd (10 ^ 59) 400 4):=by
 unfold Yv
 simp only[PT.ret_bind,PT.bind_assoc,PT.as_bind,PT.as_True]
 refine Sp.as (Zk (by simp)) (Sp.as (Zk (by simp)) ?_)
 refine Sp.bindW (Sp.dr (by omega) (by omega)) (by omega) fun i hi=>?_
 have hl:(oddL.length:Int)=34:=by decide +kernel
 refine Sp.as (WG (xs:=oddL) hi.1 (by omega)) (Sp.ret ?_)
 exact Zlm _ (WF (xs:=oddL) hi.1 (by omega))
theorem ZcQ {p:Addr}{R:Addr→D→PT D}{B w:Nat}{x:Str}(hx:x.length≤w)(hw0:w≤20000)(hasc:asc x):Sp p 4 (Z2 R p (.str x)) (Bd B (2 * w+2000) 0):=by
 unfold Z2
 simp only[PT.ret_bind,PT.bind_assoc,PT.as_bind,PT.as_True]
 refine Sp.bindW (Sp.dr (by omega) (by omega)) (by omega) fun way hw=>Sp.as rfl ?_
 refine Sp.ite (fun _=>?_) fun h=>by cases h
 have hl:lenV (.str x)=(x.length:Int):=by
  unfold lenV
  have:biD .len V0 [.str x]=some (.int (x.length:Int)):=Zfh (Zk (by omega))
  rw[this]
 refine Sp.as ?_ ?_
 · unfold Wx
   have:biD .len V0 [.str x]=some (.int (x.length:Int)):=Zfh (Zk (by omega))
   rw[this];rfl
 rw[hl]
 refine Sp.bindW (Sp.dr (by omega) (by omega)) (by omega) fun at_ ha=>?_
 refine Sp.bindW (Sp.dr (by omega) (by omega)) (by omega) fun v hv=>?_
 have h94:(((Str.ofString " !\"#$&'()*+,-./0123456789:;<=>?@ABCDEFGHIJKLMNOPQRSTUVWXYZ[\\]^_`abcdefghijklmnopqrstuvwxyz{|}~").cps.toList.length:Nat):Int)=94:=by decide +kernel
 refine Sp.as ⟨Zk (by decide +kernel),WG hv.1 (by omega)⟩ ?_
 generalize hsg:Qs (Str.ofString " !\"#$&'()*+,-./0123456789:;<=>?@ABCDEFGHIJKLMNOPQRSTUVWXYZ[\\]^_`abcdefghijklmnopqrstuvwxyz{|}~") v=sg
 have l1:sg.length=1:=by rw[← hsg];rfl
 have a1:asc sg:=by rw[← hsg];exact Zl6 (by decide +kernel) hv.1 (by omega)
 have aC:=fun lo hi=>ZeX hasc lo hi
 have c1:=fun lo hi=>VW x lo hi
 have s1:=fun lo hi=>sl_str (x:=x) (lo:=lo) (hi:=hi) (by omega)
 rw[(s1 none (some at_)).2,(s1 (some at_) none).2,(s1 (some (at_+1)) none).2]
 have b1:=Vm (x:=ZT x none (some at_)) (y:=sg) (by have:=c1 none (some at_);omega)
 rw[b1.2]
 have b2:=Vm (x:=ZT x none (some at_)++sg) (y:=ZT x (some at_) none) (by rw[X0];have:=c1 none (some at_);have:=c1 (some at_) none;omega)
 have b3:=Vm (x:=ZT x none (some at_)) (y:=ZT x (some (at_+1)) none) (by have:=c1 none (some at_);have:=c1 (some (at_+1)) none;omega)
 have b4:=Vm (x:=ZT x none (some at_)++sg) (y:=ZT x (some (at_+1)) none) (by rw[X0];have:=c1 none (some at_);have:=c1 (some (at_+1)) none;omega)
 refine Sp.as ⟨(s1 _ _).1,b1.1,(s1 _ _).1,b2.1⟩ (Sp.as ⟨(s1 _ _).1,(s1 _ _).1,b3.1⟩ (Sp.as ⟨(s1 _ _).1,b1.1,(s1 _ _).1,b4.1⟩ ?_))
 refine Sp.bindW (Sp.dr (by omega) (by omega)) (by omega) fun v2 hv2=>?_
 refine Sp.as (Zk (by decide +kernel)) ?_
 have c2:=VW (Str.ofString "abcdefgh") (some v2) none
 have l8:(Str.ofString "abcdefgh").length=8:=by decide +kernel
 have b5:=Vm (x:=x) (y:=ZT (Str.ofString "abcdefgh") (some v2) none) (by omega)
 rw[b2.2,b3.2,b4.2,b5.2]
 have hm:0≤way % 4∧way % 4<4:=by omega
 refine Sp.as b5.1 (Sp.as (WG hm.1 (by simpa using hm.2)) (Sp.ret ?_))
 have:=WF (xs:=[D.str (ZT x none (some at_)++sg++ZT x (some at_) none),D.str (ZT x none (some at_)++ZT x (some (at_+1)) none),D.str (ZT x none (some at_)++sg++ZT x (some (at_+1)) none),D.str (x++ZT (Str.ofString "abcdefgh") (some v2) none)]) hm.1 (by simpa using hm.2)
 generalize (ixD (α:=D) _ (way % 4)).getD default=res at this ⊢
 simp only[List.mem_cons,List.not_mem_nil,or_false] at this
 have aT:asc (ZT (Str.ofString "abcdefgh") (some v2) none):=ZeX (by decide +kernel) _ _
 have c1:=fun lo hi=>VW x lo hi
 rcases this with rfl | rfl | rfl | rfl
 · exact Bd.str (asc_app (asc_app (aC _ _) a1) (aC _ _)) (by rw[X0,X0];have:=c1 none (some at_);have:=c1 (some at_) none;omega)
 · exact Bd.str (asc_app (aC _ _) (aC _ _)) (by rw[X0];have:=c1 none (some at_);have:=c1 (some (at_+1)) none;omega)
 · exact Bd.str (asc_app (asc_app (aC _ _) a1) (aC _ _)) (by rw[X0,X0];have:=c1 none (some at_);have:=c1 (some (at_+1)) none;omega)
 · exact Bd.str (asc_app hasc aT) (by rw[X0];omega)
theorem ZcP {p:Addr}{R:Addr→D→PT D}{B w:Nat}{i:Int}(hB:i.natAbs≤B)(hB2:B+10 ^ 20≤10 ^ 62)(hB0:10 ^ 59≤B):Sp p 4 (Z2 R p (.int i)) (Bd (B+10 ^ 20) (2 * w+2000) 1):=by
 have hi:i.natAbs<2 ^ 1000:=Nat.lt_of_le_of_lt (Nat.le_trans hB (Nat.le_trans (Nat.le_add_right _ _) hB2)) (by decide +kernel)
 unfold Z2
 simp only[PT.ret_bind,PT.bind_assoc,PT.as_bind,PT.as_True]
 refine Sp.bindW (Sp.dr (by omega) (by omega)) (by omega) fun way hw=>Sp.as rfl ?_
 refine Sp.ite (fun h=>by cases h) fun _=>?_
 refine Sp.as ⟨rfl,fun _=>rfl⟩ ?_
 refine Sp.ite (fun _=>?_) fun h=>by cases h
 have hlog:i.natAbs.log2<1920:=by
  by_cases h0:i.natAbs=0
  · rw[h0];decide
  · have:=(Nat.log2_lt h0 (k:=1000)).mpr hi
    omega
 have est:biD .str V0 [.int i]=some (.str (toString i)):=by
  show(if i.natAbs.log2<1920 then some (D.str (toString i)) else none)=_
  rw[if_pos hlog]
 have ecmp:cmpB .Eq V0 (.int i) (.int 1)=some (decide (i=1)):=ZaD (S:=V0) (f:=D.int) (x:=i) (y:=1) ZaH (by decide)
 refine Sp.as ⟨rfl,rfl,rfl,by unfold VV;rw[ecmp];rfl,by unfold strOk;rw[est];rfl,rfl,WG hw.1 (by simpa using hw.2)⟩ (Sp.ret ?_)
 have es:strV (.int i)=.str (toString i):=by unfold strV;rw[est];rfl
 rw[es]
 have:=WF (xs:=[D.int (ZP (D.int i)+1),D.int (ZP (D.int i) - 1),D.int (-ZP (D.int i)),D.int 0,D.bl (cmpV CmpOp.Eq (D.int i) (D.int 1)),D.str (toString i),D.int (ZP (D.int i)+100000000000000000000),eP1 id (D.int i)]) hw.1 (by simpa using hw.2)
 generalize (ixD (α:=D) _ way).getD default=res at this ⊢
 simp only[List.mem_cons,List.not_mem_nil,or_false] at this
 have hlen:(toString i).length≤400:=by
  have hl:i.natAbs.log2<398:=by
   by_cases z:i.natAbs=0
   · rw[z];decide
   · exact(Nat.log2_lt z).mpr (Nat.lt_of_le_of_lt (Nat.le_trans hB (Nat.le_trans (Nat.le_add_right _ _) hB2)) (by decide +kernel))
  have:=PySem.int_text_length_le (a:=i) (k:=398) (by decide) hl
  omega
 have e20:(10:Nat) ^ 20=100000000000000000000:=by decide
 rcases this with rfl | rfl | rfl | rfl | rfl | rfl | rfl | rfl
 · exact Bd.int (by show(i+1).natAbs≤_;omega) hB2 (by omega)
 · exact Bd.int (by show(i - 1).natAbs≤_;omega) hB2 (by omega)
 · exact Bd.int (by show(-i).natAbs≤_;omega) hB2 (by omega)
 · exact Bd.int (by show(0:Int).natAbs≤_;omega) hB2 (by omega)
 · exact Bd.bl _
 · exact Bd.str (Zku i) (by show(Str.ofString (toString i)).length≤_;rw[ofString_length];omega)
 · exact Bd.int (by show(i+100000000000000000000).natAbs≤_;omega) hB2 (by omega)
 · have k:Bd (B+10 ^ 20) (2 * w+1999) 0 (.int i):=Bd.int (by omega) hB2 (by omega)
   exact Bd.tup (h:=0) (ds:=[.int i]) (fun d hd=>by rw[List.mem_singleton] at hd;subst hd;exact⟨k.fit,k.d8⟩) (by have:=k.w8;show wt (.int i)+1+0≤_;omega)
theorem ZbD {p:Addr}{R:Addr→D→PT D}{d:D}(h1:nO d=true)(h2:isaV .str d=false)(h3:(isaV .int d && !isaV .bool d)=false)(h4:isaV .tuple d=false):Sp p 4 (Z2 R p d) (Bd (10 ^ 59) 400 4):=by
 unfold Z2
 simp only[PT.ret_bind,PT.bind_assoc,PT.as_bind,PT.as_True]
 refine Sp.bindW (Sp.dr (by omega) (by omega)) (by omega) fun way hw=>Sp.as h1 ?_
 refine Sp.ite (fun h=>by rw[h2] at h;cases h) fun _=>?_
 refine Sp.as ⟨h1,fun _=>h1⟩ ?_
 refine Sp.ite (fun h=>by rw[h3] at h;cases h) fun _=>Sp.as h1 ?_
 refine Sp.ite (fun _=>?_) fun h=>by rw[h4] at h;cases h
 exact Sp.bindW ZdX (by omega) fun v hv=>Sp.ret hv
theorem ZiG {p:Addr}{R:Addr→D→PT D}{ds:List D}{B w h c:Nat}(hb:Bd B w (h+1) (.tup ds))(hw:w≤20000)(hB0:10 ^ 59≤B)(hR:∀d∈ds,Sp p c (R p d) (Bd (B+10 ^ 20) (2 * wt d+2000) (h+9))):Sp p (c+8) (Z2 R p (.tup ds)) (Bd (B+10 ^ 20) (2 * w+2000) (h+10)):=by
 have hel:∀d∈ds,d.fit (B+10 ^ 20)=true∧dp d≤h+9:=fun d hd=>by
  obtain⟨k,_,_⟩:=hb.part d hd
  exact⟨VZ (by omega) d k.fit,by have:=k.d8;omega⟩
 have hwt:wts ds≤w:=hb.w8
 have hlen:=Zbz ds
 have hcut:∀(lo hi:Option Int),∀d∈cutD ds lo hi,d.fit (B+10 ^ 20)=true∧dp d≤h+9:=fun lo hi d h=>hel d (ZiM h)
 have lcut:=fun lo hi=>ZiL ds lo hi
 unfold Z2
 simp only[PT.ret_bind,PT.bind_assoc,PT.as_bind,PT.as_True]
 refine Sp.bindW (Sp.dr (by omega) (by omega)) (by omega) fun way hw=>Sp.as rfl ?_
 refine Sp.ite (fun h=>by cases h) fun _=>Sp.as ⟨rfl,fun h=>by cases h⟩ ?_
 refine Sp.ite (fun h=>by cases h) fun _=>Sp.as rfl ?_
 refine Sp.ite (fun h=>by cases h) fun _=>Sp.as rfl ?_
 have hl:lenV (.tup ds)=(ds.length:Int):=rfl
 rw[hl]
 refine Sp.bindW (Sp.dr (by omega) (by omega)) (by omega) fun at_ ha=>Sp.as (fun _=>rfl) ?_
 have w1:∀(i:Int),0≤i→wts (cutD ds none (some i))+wts (cutD ds (some i) none)=wts ds:=fun i hi=>by rw[UH ds hi,X8 ds hi];exact Ql ds _
 have w2:∀(i:Int),0≤i→wts (cutD ds (some (i+1)) none)≤wts (cutD ds (some i) none):=fun i hi=>by
  rw[X8 ds hi,X8 ds (by omega),show(i+1).toNat=i.toNat+1 by omega]
  have:=Ql (ds.drop i.toNat) 1
  rw[List.drop_drop] at this
  omega
 have mid:∀(v:D)(u:Nat),Bd (B+10 ^ 20) u (h+9) v→wts (cutD ds none (some at_))+(u+1)+wts (cutD ds (some (at_+1)) none)≤2 * w+2000→ZB .Add (slV (.tup ds) none (some at_)) (eP1 id v)∧slOk (.tup ds) (some (at_+1)) none∧ZB .Add (binV .Add (slV (.tup ds) none (some at_)) (eP1 id v)) (slV (.tup ds) (some (at_+1)) none)∧Bd (B+10 ^ 20) (2 * w+2000) (h+10) (binV .Add (binV .Add (slV (.tup ds) none (some at_)) (eP1 id v)) (slV (.tup ds) (some (at_+1)) none)):=by
  intro v u hv hu
  have l1:=lcut none (some at_)
  have l2:=lcut (some (at_+1)) none
  have b1:=Zbe (xs:=cutD ds none (some at_)) (ys:=[v]) (by simp;omega)
  have b2:=Zbe (xs:=cutD ds none (some at_)++[v]) (ys:=cutD ds (some (at_+1)) none) (by simp;omega)
  have e1:eP1 id v=.tup [v]:=rfl
  rw[sl_tup.2,sl_tup.2,e1,b1.2,b2.2]
  refine⟨b1.1,rfl,b2.1,Bd.tup (fun d hd=>?_) ?_⟩
  · rcases List.mem_append.mp hd with hd | hd
    · rcases List.mem_append.mp hd with hd | hd
      · exact hcut _ _ d hd
      · rw[List.mem_singleton] at hd;subst hd;exact⟨hv.fit,hv.d8⟩
    · exact hcut _ _ d hd
  · rw[X3,X3]
    have:=hv.w8
    show wts _+(wt v+1+0)+wts _≤_
    omega
 refine Sp.ite (fun hc=>?_) fun _=>?_
 · rw[Bool.and_eq_true,decide_eq_true_eq,decide_eq_true_eq] at hc
   have hix:=WG (xs:=ds) ha.1 hc.2
   have hin:=WF (xs:=ds) ha.1 hc.2
   have eix:ixOf V0 (.tup ds) (.int at_)=ixD ds at_:=rfl
   refine Sp.as rfl (Sp.as (by unfold ixOk;rw[eix];exact hix) ?_)
   have ev:ixV (.tup ds) (.int at_)=(ixD ds at_).getD default:=by unfold ixV;rw[eix];rfl
   rw[ev]
   have hx:wts (cutD ds none (some at_))+(wt ((ixD ds at_).getD default)+1)+wts (cutD ds (some (at_+1)) none)=wts ds:=by
    have hi:at_.toNat<ds.length:=by omega
    have e:(ixD ds at_).getD default=ds[at_.toNat]:=by
     unfold ixD;rw[if_pos ha.1,List.getElem?_eq_getElem hi];rfl
    have:=w1 at_ ha.1
    rw[X8 ds ha.1,← List.getElem_cons_drop hi] at this
    rw[e,X8 ds (by omega),show(at_+1).toNat=at_.toNat+1 by omega]
    have e3:wts (ds[at_.toNat] :: ds.drop (at_.toNat+1))=wt ds[at_.toNat]+1+wts (ds.drop (at_.toNat+1)):=rfl
    omega
   refine Sp.bindW (hR _ hin) (by omega) fun v hv=>?_
   have:=mid v _ hv (by omega)
   exact Sp.as this.1 (Sp.as this.2.1 (Sp.as this.2.2.1 (Sp.ret this.2.2.2)))
 have two:∀(a b:List D),wts a+wts b≤2 * w+2000→(∀d∈a,d.fit (B+10 ^ 20)=true∧dp d≤h+9)→(∀d∈b,d.fit (B+10 ^ 20)=true∧dp d≤h+9)→ZB .Add (.tup a) (.tup b)∧binV .Add (.tup a) (.tup b)=.tup (a++b)∧Bd (B+10 ^ 20) (2 * w+2000) (h+10) (.tup (a++b)):=by
  intro a b h1 h3 h4
  have b1:=Zbe (xs:=a) (ys:=b) (by have:=Zbz a;have:=Zbz b;omega)
  refine⟨b1.1,b1.2,Bd.tup (fun d hd=>?_) (by rw[X3];exact h1)⟩
  rcases List.mem_append.mp hd with hd | hd
  · exact h3 d hd
  · exact h4 d hd
 refine Sp.ite (fun _=>?_) fun _=>?_
 · have:=two (cutD ds none (some at_)) (cutD ds (some (at_+1)) none) (by have:=w1 at_ ha.1;have:=w2 at_ ha.1;omega) (hcut none (some at_)) (hcut (some (at_+1)) none)
   refine Sp.as ⟨rfl,rfl,this.1⟩ (Sp.ret ?_)
   show Bd _ _ _ (binV .Add (.tup (cutD ds none (some at_))) (.tup (cutD ds (some (at_+1)) none)))
   rw[this.2.1];exact this.2.2
 have ones:∀(i j:Int),0≤i→0≤j→wts (cutD ds none (some i))+wts (cutD ds (some i) (some j))≤wts ds∧wts (cutD ds (some i) (some j))≤wts ds:=by
  intro i j hi hj
  have:=w1 i hi
  rw[Q5 ds hi hj]
  rw[X8 ds hi] at this
  have h2:=Ql (ds.drop i.toNat) (j.toNat - i.toNat)
  omega
 refine Sp.ite (fun _=>?_) fun _=>?_
 · have o1:=ones at_ (at_+1) ha.1 (by omega)
   have o2:=w1 at_ ha.1
   have t1:=two (cutD ds none (some at_)) (cutD ds (some at_) (some (at_+1))) (by omega) (hcut none (some at_)) (hcut (some at_) (some (at_+1)))
   have hmem:∀d∈cutD ds none (some at_)++cutD ds (some at_) (some (at_+1)),d.fit (B+10 ^ 20)=true∧dp d≤h+9:=fun d hd=>by
    rcases List.mem_append.mp hd with hd | hd
    · exact hcut _ _ d hd
    · exact hcut _ _ d hd
   have t2:=two (cutD ds none (some at_)++cutD ds (some at_) (some (at_+1))) (cutD ds (some at_) none) (by rw[X3];omega) hmem (hcut _ _)
   have e1:binV .Add (slV (.tup ds) none (some at_)) (slV (.tup ds) (some at_) (some (at_+1)))=.tup (cutD ds none (some at_)++cutD ds (some at_) (some (at_+1))):=t1.2.1
   rw[e1]
   refine Sp.as ⟨rfl,rfl,t1.1,rfl,t2.1⟩ (Sp.ret ?_)
   show Bd _ _ _ (binV .Add (.tup _) (.tup (cutD ds (some at_) none)))
   rw[t2.2.1]
   exact t2.2.2
 refine Sp.ite (fun _=>?_) fun _=>?_
 · refine Sp.as rfl (Sp.as rfl ?_)
   refine Sp.bindW ZdX (by omega) fun v hv=>?_
   have hm:=mid v 400 (hv.up (by omega) (Nat.le_refl _) (by omega)) (by have:=w1 at_ ha.1;have:=w2 at_ ha.1;omega)
   refine Sp.as hm.1 (Sp.as hm.2.1 (Sp.as hm.2.2.1 ?_))
   refine Sp.bindW (Sp.dr (by omega) (by omega)) (by omega) fun k hk=>?_
   refine Sp.as (WG hk.1 (by simpa using hk.2)) (Sp.ret ?_)
   have:=WF (xs:=[eL id (seqV (D.tup ds)),binV .Add (binV .Add (slV (.tup ds) none (some at_)) (eP1 id v)) (slV (.tup ds) (some (at_+1)) none)]) hk.1 (by simpa using hk.2)
   generalize (ixD (α:=D) _ k).getD default=res at this ⊢
   simp only[List.mem_cons,List.not_mem_nil,or_false] at this
   rcases this with rfl | rfl
   · show Bd _ _ (h+10) (.lst (ds.map id))
     rw[List.map_id]
     exact Bd.lst hel (by omega)
   · exact hm.2.2.2
 · have hrev:∀d∈(cutD ds (some at_) (some (at_+2))).reverse,d.fit (B+10 ^ 20)=true∧dp d≤h+9:=fun d hd=>hcut _ _ d (List.mem_reverse.mp hd)
   have o1:=ones at_ (at_+2) ha.1 (by omega)
   have o2:=w1 at_ ha.1
   have o3:=w2 at_ ha.1
   have o4:=w2 (at_+1) (by omega)
   rw[show at_+1+1=at_+2 by omega] at o4
   have t1:=two (cutD ds none (some at_)) (cutD ds (some at_) (some (at_+2))).reverse (by rw[ZbA];omega) (hcut none (some at_)) hrev
   have hmem:∀d∈cutD ds none (some at_)++(cutD ds (some at_) (some (at_+2))).reverse,d.fit (B+10 ^ 20)=true∧dp d≤h+9:=fun d hd=>by
    rcases List.mem_append.mp hd with hd | hd
    · exact hcut _ _ d hd
    · exact hrev d hd
   have t2:=two (cutD ds none (some at_)++(cutD ds (some at_) (some (at_+2))).reverse) (cutD ds (some (at_+2)) none) (by rw[X3,ZbA];omega) hmem (hcut _ _)
   have er:revV (slV (.tup ds) (some at_) (some (at_+2)))=.tup (cutD ds (some at_) (some (at_+2))).reverse:=rfl
   rw[er]
   have e1:binV .Add (slV (.tup ds) none (some at_)) (.tup (cutD ds (some at_) (some (at_+2))).reverse)=.tup (cutD ds none (some at_)++(cutD ds (some at_) (some (at_+2))).reverse):=t1.2.1
   rw[e1]
   refine Sp.as ⟨rfl,rfl,rfl,t1.1,rfl,t2.1⟩ (Sp.ret ?_)
   show Bd _ _ _ (binV .Add (.tup _) (.tup (cutD ds (some (at_+2)) none)))
   rw[t2.2.1]
   exact t2.2.2
theorem Zal {p:Addr}{B:Nat}(hB0:10 ^ 59≤B)(hB2:B+10 ^ 20≤10 ^ 62):∀(n:Nat)(d:D)(w h:Nat),Bd B w h d→w≤20000→h≤n→∀m,n+1≤m→Sp p (8 * (n+1)) (Z9 m p d) (Bd (B+10 ^ 20) (2 * w+2000) (h+9)):=by
 intro n
 induction n with
 | zero=>
   intro d w h hb hw hn m hm
   obtain⟨m,rfl⟩:∃k,m=k+1:=⟨m - 1,by omega⟩
   rw[UW]
   cases d with
   | str x=>exact(ZcQ (B:=B) (w:=w) hb.w8 hw (by have:=hb.fit;rw[D.fit] at this;exact this)).up (by omega) fun v k=>k.up (by omega) (by omega) (by omega)
   | int i=>exact(ZcP (B:=B) (w:=w) (by have:=hb.fit;rw[D.fit] at this;exact of_decide_eq_true this) hB2 hB0).up (by omega) fun v k=>k.up (by omega) (by omega) (by omega)
   | tup ds=>exfalso;have:dps ds+1≤h:=hb.d8;omega
   | scr _=>have:=hb.fit;rw[D.fit] at this;cases this
   | obj _=>have:=hb.fit;rw[D.fit] at this;cases this
   | _=>exact(ZbD rfl rfl rfl rfl).up (by omega) fun v k=>k.up (by omega) (by omega) (by omega)
 | succ n ih=>
   intro d w h hb hw hn m hm
   obtain⟨m,rfl⟩:∃k,m=k+1:=⟨m - 1,by omega⟩
   rw[UW]
   cases d with
   | str x=>exact(ZcQ (B:=B) (w:=w) hb.w8 hw (by have:=hb.fit;rw[D.fit] at this;exact this)).up (by omega) fun v k=>k.up (by omega) (by omega) (by omega)
   | int i=>exact(ZcP (B:=B) (w:=w) (by have:=hb.fit;rw[D.fit] at this;exact of_decide_eq_true this) hB2 hB0).up (by omega) fun v k=>k.up (by omega) (by omega) (by omega)
   | tup ds=>
     obtain⟨h,rfl⟩:∃k,h=k+1:=⟨h - 1,by have:dps ds+1≤h:=hb.d8;omega⟩
     refine(ZiG (c:=8 * (n+1)) hb hw hB0 fun x hx=>?_).up (by omega) fun v k=>k
     obtain⟨k,_,k2⟩:=hb.part x hx
     exact ih x (wt x) h k (by omega) (by omega) m (by omega)
   | scr _=>have:=hb.fit;rw[D.fit] at this;cases this
   | obj _=>have:=hb.fit;rw[D.fit] at this;cases this
   | _=>exact(ZbD rfl rfl rfl rfl).up (by omega) fun v k=>k.up (by omega) (by omega) (by omega)
end Bn
end Vw
namespace Vw
open PySem Sw
noncomputable section
def L1_law_runs:Cs:=
    (.cons (.asg (.nm 2) (.bin .Add (.v 2) (.comp .it (.cons (.v 3) .nil) [8,9] (.tp (.nm 8) (.tp (.nm 9) .nil)) .nil (.v 8))))
    (.cons (.wipe [3])
    .nil))
def B_law_runs:Cs:=
    (.cons (.asg (.nm 2) (.lst .nil))
    (.cons (.for .it (.cons (.ix (.v 1) (.k (.int 0))) .nil) (.nm 3) L1_law_runs)
    (.cons (.asg (.nm 4) (.call "_law_draw" (.cons (.v 0) (.cons (.bi .len (.cons (.v 2) .nil)) .nil))))
    (.cons (.asg (.nm 5) (.bi .tuple (.cons (.sl true true (.v 2) (.cons (.v 4) (.cons (.bin .Add (.bin .Add (.v 4) (.k (.int 1))) (.call "_law_draw" (.cons (.v 0) (.cons (.k (.int 4)) .nil)))) .nil))) .nil)))
    (.cons (.asg (.nm 6) (.bi .tuple (.cons (.comp .rng1 (.cons (.bin .Add (.k (.int 1)) (.call "_law_draw" (.cons (.v 0) (.cons (.k (.int 3)) .nil)))) .nil) [7] (.nm 7) .nil (.ix (.v 2) (.call "_law_draw" (.cons (.v 0) (.cons (.bi .len (.cons (.v 2) .nil)) .nil))))) .nil)))
    (.cons (.ret (.lst (.cons (.v 5) (.cons (.rev (.v 5)) (.cons (.bin .Add (.sl false true (.v 5) (.cons (.k (.int 1)) .nil)) (.sl true false (.v 5) (.cons (.k (.int 2)) .nil))) (.cons (.v 6) (.cons (.bin .Add (.v 5) (.sl false true (.v 5) (.cons (.k (.int 1)) .nil))) (.cons (.bi .list (.cons (.v 5) .nil)) (.cons (.bin .Add (.v 5) (.tup (.cons (.k (.str "")) .nil))) (.cons (.tup .nil) .nil))))))))))
    .nil))))))
def W1:PDef:=⟨10,2,[],true,false,B_law_runs⟩
def WI (s4:(List Str))(x5:(List Sw.Tab)):PT (List Str):=(PT.bind (PT.as ((x5.length≤sizeLine)∧(s4.length+(x5.map (fun(x8:Sw.Tab)=>x8.1)).length≤sizeLine)) (PT.ret (s4++(x5.map (fun(x8:Sw.Tab)=>x8.1))))) (fun names_11=>(PT.ret names_11)))
def Xy (pen:Addr)(room:Room):PT (List D):=(PT.bind (PT.ret ([])) (fun names_3=>(PT.as (True) (PT.bind (PT.fold WI room.rows names_3) (fun s12=>(PT.bind (Zs pen (s12.length:Int)) (fun at_14=>(PT.bind (PT.bind (PT.bind (PT.bind (PT.ret s12) (fun u24=>(PT.bind (PT.bind (PT.ret (at_14+(1:Int))) (fun u20=>(PT.bind (Zs pen (4:Int)) (fun v21=>(PT.ret (u20+v21)))))) (fun v25=>(PT.as ((True)) (PT.ret (cutD u24 (some at_14) (some v25)))))))) (fun a0=>(PT.bind (PT.ret ()) (fun b0=>(PT.ret (a0,b0)))))) (fun z26=>(PT.ret z26.1))) (fun some_27=>(PT.bind (PT.bind (PT.bind (PT.bind (PT.bind (PT.bind (PT.ret (1:Int)) (fun u31=>(PT.bind (Zs pen (3:Int)) (fun v32=>(PT.ret (u31+v32)))))) (fun a0=>(PT.bind (PT.ret ()) (fun b0=>(PT.ret (a0,b0)))))) (fun z33=>(PT.as ((RgB z33.1)∧((rngZ (0:Int) z33.1).length≤sizeLine)) (PT.mapM (fun(x34:Int)=>(PT.bind (PT.ret s12) (fun u38=>(PT.bind (Zs pen (s12.length:Int)) (fun v39=>(PT.as (((ixD u38 v39).isSome=true)) (PT.ret ((ixD u38 v39).getD default)))))))) (rngZ (0:Int) z33.1))))) (fun a0=>(PT.bind (PT.ret ()) (fun b0=>(PT.ret (a0,b0)))))) (fun z40=>(PT.ret z40.1))) (fun other_41=>(PT.bind (PT.as (((cutD some_27 none (some (1:Int))).length+(cutD some_27 (some (2:Int)) none).length≤sizeLine)∧(some_27.length+(cutD some_27 none (some (1:Int))).length≤sizeLine)∧(some_27.length+([("" : Str)]).length≤sizeLine)) (PT.ret ([(Zd some_27),(Zd some_27.reverse),(Zd ((cutD some_27 none (some (1:Int)))++(cutD some_27 (some (2:Int)) none))),(Zd other_41),(Zd (some_27++(cutD some_27 none (some (1:Int))))),((eL D.str) some_27),(Zd (some_27++[("" : Str)])),((eT (fun x:Unit=>D.non)) ([]))]))) (fun u44=>(PT.ret u44))))))))))))))
def VP (T:Vw.Tab):Prop:=∀(n:Nat) (pen:Addr) (room:Room) (w:W) (Q:QW) (P:(List D)→W→Prop),Xy pen room w P→(∀v w',P v w'→Q ((eL id) v) w')→cX T (n+1) "" "_law_runs" [(D.obj pen),(Zj room)] w Q
theorem Zgp {T:Vw.Tab}(h:T.df "" "_law_runs" = some W1) (iS_law_draw:YG T):VP T:=fun n pen room w Q P z m=>sq_of (f:=(eL id)) h rfl rfl
 (V2 (ZC (ρ':=[some (false,(D.obj pen)),some (false,(Zj room)),none,none,none,none,none,none,none,none]) rfl (Z1 (f:=(eL D.str)) rfl (Yf (f:=(eL D.str)) ([]) (fun w=>(Xu Zf sz_0))) (fun _=>ZK) (fun names_3=>(ZC (ρ':=[some (false,(D.obj pen)),some (false,(Zj room)),some (false,((eL D.str) names_3)),none,none,none,none,none,none,none]) rfl (Zi5 (σ:=(List Str)) ZF (fun s4=>[some (false,(D.obj pen)),some (false,(Zj room)),some (false,((eL D.str) s4)),none,none,none,none,none,none,none]) WI room.rows names_3 (True) (fun ok w=>(Zc (j_ix (j_v rfl) j_k rfl) Zf)) (fun ok w=>(Zka (f:=ZF))) rfl (fun s4 x5=>⟨_,ZK,V2 (ZC (ρ':=[some (false,(D.obj pen)),some (false,(Zj room)),some (false,((eL D.str) s4)),some (false,(ZF x5)),none,none,none,none,none,none]) rfl (Z1 (f:=(eL D.str)) rfl (Yq (f:=(eL D.str)) ((x5.length≤sizeLine)∧(s4.length+(x5.map (fun(x8:Sw.Tab)=>x8.1)).length≤sizeLine)) (s4++(x5.map (fun(x8:Sw.Tab)=>x8.1))) (fun k10 w=>(ZH (o:=.Add) (x:=((eL D.str) s4)) (y:=((eL D.str) (x5.map (fun(x8:Sw.Tab)=>x8.1)))) (j_v rfl) (Zfb tabD D.str x5 (fun(x8:Sw.Tab)=>x8.1) (Zc (j_v rfl) Zf) (Zka (f:=tabD)) k10.1 (fun x8 h9=>⟨[some (false,(D.obj pen)),some (false,(Zj room)),some (false,((eL D.str) s4)),some (false,(ZF x5)),none,none,none,none,some (false,(D.str x8.1)),some (false,(D.int x8.2))],ZlB,(j_v rfl)⟩)) (Zax (f:=D.str) k10.2)))) (fun _=>ZK) (fun names_11=>(ZC (ρ':=[some (false,(D.obj pen)),some (false,(Zj room)),some (false,((eL D.str) names_11)),some (false,(ZF x5)),none,none,none,none,none,none]) rfl (Zbl (ZC (ρ':=[some (false,(D.obj pen)),some (false,(Zj room)),some (false,((eL D.str) names_11)),none,none,none,none,none,none,none]) rfl (Xk (Zdm names_11 rfl)))))))) rfl⟩) (fun s12=>(Z1 (f:=D.int) rfl (ZI (g:=D.int) (Y:=Zs pen (s12.length:Int)) (fun w=>(Zc (j_v rfl) (Zc (j_bi (Zc (j_v rfl) Zf) (Zf4 (f:=D.str))) Zf))) (fun w Q P q m=>iS_law_draw n pen (s12.length:Int) w Q P q m)) (fun _=>ZK) (fun at_14=>(ZC (ρ':=[some (false,(D.obj pen)),some (false,(Zj room)),some (false,((eL D.str) s12)),none,some (false,(D.int at_14)),none,none,none,none,none]) rfl (Z1 (f:=Zd) rfl (Zhn (g:=Zd) (fun(z26:(List Str)×Unit)=>z26.1) (Z4 (f:=(eL D.str)) (Zla (k:=(eL D.str)) (f:=(eL D.str)) (fun(u24:(List Str)) (v25:Int)=>(True)) (fun(u24:(List Str)) (v25:Int)=>(cutD u24 (some at_14) (some v25))) (Yf (f:=(eL D.str)) s12 (fun w=>(j_v rfl))) (fun w=>(j_v rfl)) (Zfc (o:=.Add) (k:=D.int) (f:=D.int) (g:=D.int) (fun(u20:Int) (v21:Int)=>(u20+v21)) (Yf (f:=D.int) (at_14+(1:Int)) (fun w=>(ZH (o:=.Add) (x:=(D.int at_14)) (y:=(D.int (1:Int))) (j_v rfl) j_k rfl))) (ZI (g:=D.int) (Y:=Zs pen (4:Int)) (fun w=>(Zc (j_v rfl) (Zc j_k Zf))) (fun w Q P q m=>iS_law_draw n pen (4:Int) w Q P q m)) (fun S (u20:Int) (v21:Int)=>rfl)) (fun S (u24:(List Str)) (v25:Int) ok=>(sl_L (f:=D.str)))) X1) (fun S (z26:(List Str)×Unit)=>(Zfz (f:=D.str) (xs:=z26.1)))) (fun _=>ZK) (fun some_27=>(ZC (ρ':=[some (false,(D.obj pen)),some (false,(Zj room)),some (false,((eL D.str) s12)),none,some (false,(D.int at_14)),some (false,(Zd some_27)),none,none,none,none]) rfl (Z1 (f:=Zd) rfl (Zhn (g:=Zd) (fun(z40:(List Str)×Unit)=>z40.1) (Z4 (f:=(eL D.str)) (Zng rfl D.int D.str (fun(z33:Int×Unit)=>(rngZ (0:Int) z33.1)) (fun(x34:Int)=>(PT.bind (PT.ret s12) (fun u38=>(PT.bind (Zs pen (s12.length:Int)) (fun v39=>(PT.as (((ixD u38 v39).isSome=true)) (PT.ret ((ixD u38 v39).getD default)))))))) (fun(z33:Int×Unit)=>(RgB z33.1)∧((rngZ (0:Int) z33.1).length≤sizeLine)) (Z4 (f:=D.int) (Zfc (o:=.Add) (k:=D.int) (f:=D.int) (g:=D.int) (fun(u31:Int) (v32:Int)=>(u31+v32)) (Yf (f:=D.int) (1:Int) (fun w=>j_k)) (ZI (g:=D.int) (Y:=Zs pen (3:Int)) (fun w=>(Zc (j_v rfl) (Zc j_k Zf))) (fun w Q P q m=>iS_law_draw n pen (3:Int) w Q P q m)) (fun S (u31:Int) (v32:Int)=>rfl)) X1) (fun S (z33:Int×Unit) ok=>(XX ok.1)) (fun(z33:Int×Unit) ok=>ok.2) (fun x34=>⟨[some (false,(D.obj pen)),some (false,(Zj room)),some (false,((eL D.str) s12)),none,some (false,(D.int at_14)),some (false,(Zd some_27)),none,some (false,(D.int x34)),none,none],ZK,(Qu (k:=D.str) (f:=(eL D.str)) (g:=D.int) (fun(u38:(List Str)) (v39:Int)=>((ixD u38 v39).isSome=true)) (fun(u38:(List Str)) (v39:Int)=>((ixD u38 v39).getD default)) (Yf (f:=(eL D.str)) s12 (fun w=>(j_v rfl))) (ZI (g:=D.int) (Y:=Zs pen (s12.length:Int)) (fun w=>(Zc (j_v rfl) (Zc (j_bi (Zc (j_v rfl) Zf) (Zf4 (f:=D.str))) Zf))) (fun w Q P q m=>iS_law_draw n pen (s12.length:Int) w Q P q m)) (fun S (u38:(List Str)) (v39:Int) ok=>(ix_L (f:=D.str) ok)))⟩)) X1) (fun S (z40:(List Str)×Unit)=>(Zfz (f:=D.str) (xs:=z40.1)))) (fun _=>ZK) (fun other_41=>(ZC (ρ':=[some (false,(D.obj pen)),some (false,(Zj room)),some (false,((eL D.str) s12)),none,some (false,(D.int at_14)),some (false,(Zd some_27)),some (false,(Zd other_41)),none,none,none]) rfl (Y2 (f:=(eL id)) (fun u44=>u44) rfl (Yq (f:=(eL id)) (((cutD some_27 none (some (1:Int))).length+(cutD some_27 (some (2:Int)) none).length≤sizeLine)∧(some_27.length+(cutD some_27 none (some (1:Int))).length≤sizeLine)∧(some_27.length+([("" : Str)]).length≤sizeLine)) ([(Zd some_27),(Zd some_27.reverse),(Zd ((cutD some_27 none (some (1:Int)))++(cutD some_27 (some (2:Int)) none))),(Zd other_41),(Zd (some_27++(cutD some_27 none (some (1:Int))))),((eL D.str) some_27),(Zd (some_27++[("" : Str)])),((eT (fun x:Unit=>D.non)) ([]))]) (fun k43 w=>(Xu (Zc (j_v rfl) (Zc (Zj1 (j_v rfl) (ZpE)) (Zc (ZH (o:=.Add) (x:=(Zd (cutD some_27 none (some (1:Int))))) (y:=(Zd (cutD some_27 (some (2:Int)) none))) (XI (j_v rfl) j_k (sl_T (f:=D.str))) (Wb (j_v rfl) j_k (sl_T (f:=D.str))) (ZfN (f:=D.str) k43.1)) (Zc (j_v rfl) (Zc (ZH (o:=.Add) (x:=(Zd some_27)) (y:=(Zd (cutD some_27 none (some (1:Int))))) (j_v rfl) (XI (j_v rfl) j_k (sl_T (f:=D.str))) (ZfN (f:=D.str) k43.2.1)) (Zc (j_bi (Zc (j_v rfl) Zf) (Zno (f:=D.str) (xs:=some_27))) (Zc (ZH (o:=.Add) (x:=(Zd some_27)) (y:=(Zd ([("" : Str)]))) (j_v rfl) (Z3 (Zc j_k Zf) sz_1) (ZfN (f:=D.str) k43.2.2)) (Zc (Z3 Zf sz_0) Zf)))))))) sz_8))) (fun _=>rfl))))))))))))))))) (by unfold Xy;rfl)) w Q P z m
def L1_law:Cs:=
    (.cons (.asg (.nm 9) (.bi .repr (.cons (.v 8) .nil)))
    (.cons (.asg (.nm 10) (.and (.isa .tuple (.v 8)) (.cmp .In (.v 8) (.v 4))))
    (.cons (.ifs (.or (.cmp .NotEq (.comp .rng1 (.cons (.k (.int 2)) .nil) [11] (.nm 11) .nil (.bi .repr (.cons (.call "is_stand" (.cons (.v 3) (.cons (.v 8) .nil))) .nil))) (.bin .Mult (.lst (.cons (.bi .repr (.cons (.v 10) .nil)) .nil)) (.k (.int 2)))) (.cmp .NotEq (.bi .repr (.cons (.v 8) .nil)) (.v 9))) (.cons (.ret (.k (.bl false)))
    .nil) .nil)
    (.cons (.wipe [8,9,10])
    .nil))))
def L2_law:Cs:=
    (.cons (.asg (.nm 3) (.call "_law_room" (.cons (.v 1) (.cons (.k (.int 8)) .nil))))
    (.cons (.asg (.nm 4) (.call "_law_stands" (.cons (.v 3) .nil)))
    (.cons (.asg (.nm 5) (.ix (.v 4) (.call "_law_draw" (.cons (.v 1) (.cons (.bi .len (.cons (.v 4) .nil)) .nil)))))
    (.cons (.asg (.nm 6) (.call "_law_bent" (.cons (.v 1) (.cons (.v 5) .nil))))
    (.cons (.asg (.nm 7) (.bin .Add (.bin .Add (.v 4) (.call "_law_runs" (.cons (.v 1) (.cons (.v 3) .nil)))) (.lst (.cons (.v 6) (.cons (.call "_law_bent" (.cons (.v 1) (.cons (.v 6) .nil))) (.cons (.call "_law_bent" (.cons (.v 1) (.cons (.v 5) .nil))) (.cons (.call "_law_odd" (.cons (.v 1) .nil)) .nil)))))))
    (.cons (.for .it (.cons (.v 7) .nil) (.nm 8) L1_law)
    (.cons (.wipe [2,3,4,5,6,7,8,9,10])
    .nil)))))))
def B_law:Cs:=
    (.cons (.asg (.nm 1) (.call "_law_pen" (.cons (.v 0) .nil)))
    (.cons (.for .rng1 (.cons (.k (.int 4)) .nil) (.nm 2) L2_law)
    (.cons (.ret (.k (.bl true)))
    .nil)))
def Zbh:PDef:=⟨12,1,[],true,false,B_law⟩
def Ve (room_7:Room)(stands_10:(List (List Str)))(s33:Unit)(x34:D):PT (Sum Bool Unit):=(PT.bind (PT.as ((Y4 x34)) (PT.ret (ZY x34))) (fun kept_38=>(PT.bind (PT.as ((nO x34=true)∧((isaV .tuple x34)=true→(VV .In x34 ((eL Zd) stands_10)))) (PT.ret ((isaV .tuple x34) && (cmpV .In x34 ((eL Zd) stands_10))))) (fun due_42=>(PT.as ((∀x44∈(rngZ (0:Int) (2:Int)),(XJ room_7 x34)∧(Y4 (D.bl (Yb room_7 x34))))∧((rngZ (0:Int) (2:Int)).length≤sizeLine)∧(Y4 (D.bl due_42))∧(0≤(2:Int)∧(2:Int)<2 ^ 62∧([(ZY (D.bl due_42))]).length * ((2:Int)).toNat≤sizeLine)∧((!decide (((rngZ (0:Int) (2:Int)).map (fun(x44:Int)=>(ZY (D.bl (Yb room_7 x34)))))=(mulL ([(ZY (D.bl due_42))]) (2:Int))))=false→(Y4 x34))) (if((!decide (((rngZ (0:Int) (2:Int)).map (fun(x44:Int)=>(ZY (D.bl (Yb room_7 x34)))))=(mulL ([(ZY (D.bl due_42))]) (2:Int)))) || (!decide ((ZY x34)=kept_38)))=true then(PT.bind (PT.ret false) (fun u51=>(PT.ret (Sum.inl u51)))) else(PT.ret (Sum.inr ()))))))))
def Zai (pen_2:Addr)(s3:Unit)(x4:Int):PT (Sum Bool Unit):=(PT.bind (WT pen_2 (8:Int)) (fun room_7=>(PT.bind (PT.as ((Zv room_7)) (PT.ret (ZX room_7))) (fun stands_10=>(PT.bind (PT.bind (PT.ret stands_10) (fun u14=>(PT.bind (Zs pen_2 (stands_10.length:Int)) (fun v15=>(PT.as (((ixD u14 v15).isSome=true)) (PT.ret ((ixD u14 v15).getD default))))))) (fun stand_16=>(PT.bind (Z9 20 pen_2 (Zd stand_16)) (fun once_18=>(PT.bind (PT.bind (PT.bind (PT.ret stands_10) (fun u22=>(PT.bind (Xy pen_2 room_7) (fun v23=>(PT.as (((u22.map Zd).length+v23.length≤sizeLine)) (PT.ret ((u22.map Zd)++v23))))))) (fun u30=>(PT.bind (PT.bind (PT.bind (PT.ret once_18) (fun a0=>(PT.bind (PT.bind (Z9 20 pen_2 once_18) (fun a1=>(PT.bind (PT.bind (Z9 20 pen_2 (Zd stand_16)) (fun a2=>(PT.bind (PT.bind (Yv pen_2) (fun a3=>(PT.bind (PT.ret ()) (fun b3=>(PT.ret (a3,b3)))))) (fun b2=>(PT.ret (a2,b2)))))) (fun b1=>(PT.ret (a1,b1)))))) (fun b0=>(PT.ret (a0,b0)))))) (fun z29=>(PT.ret [z29.1,z29.2.1,z29.2.2.1,z29.2.2.2.1]))) (fun v31=>(PT.as ((u30.length+v31.length≤sizeLine)) (PT.ret (u30++v31))))))) (fun things_32=>(PT.as (True) (PT.bind (PT.loop (Ve room_7 stands_10) things_32 ()) (fun z54=>sc z54 (fun t53=>(PT.ret ((fun t=>Sum.inl t) t53))) (fun s52=>(PT.ret (Sum.inr ()))))))))))))))))
def ZcE (script:(List Int)):PT Bool:=(PT.bind (UX script) (fun pen_2=>(PT.as (True) (PT.bind (PT.loop (Zai pen_2) (rngZ (0:Int) (4:Int)) ()) (fun z60=>sc z60 (fun t59=>(PT.ret ((fun t=>t) t59))) (fun s55=>(PT.bind (PT.ret true) (fun u58=>(PT.ret u58)))))))))
def ZjP (T:Vw.Tab):Prop:=∀(n:Nat) (script:(List Int)) (w:W) (Q:QW) (P:Bool→W→Prop),ZcE script w P→(∀v w',P v w'→Q (D.bl v) w')→cX T (n+22) "" "law" [(eScr script)] w Q
theorem ZpG {T:Vw.Tab}(h:T.df "" "law" = some Zbh) (iS_law_pen:UB T) (iS_law_room:VO T) (iS_law_stands:W0 T) (iS_law_draw:YG T) (iS_law_bent:VN T) (iS_law_runs:VP T) (iS_law_odd:XZ T) (iS_is_stand:VM T):ZjP T:=fun n script w Q P z m=>sq_of (f:=D.bl) h rfl rfl
 (V2 (ZC (ρ':=[some (false,(eScr script)),none,none,none,none,none,none,none,none,none,none,none]) rfl (Z1 (f:=D.obj) rfl (ZI (g:=D.obj) (Y:=UX script) (fun w=>(Zc (j_v rfl) Zf)) (fun w Q P q m=>iS_law_pen (n+21) script w Q P q m)) (fun _=>ZK) (fun pen_2=>(ZC (ρ':=[some (false,(eScr script)),some (false,(D.obj pen_2)),none,none,none,none,none,none,none,none,none,none]) rfl (Zdn (σ:=Unit) D.int (fun s3=>[some (false,(eScr script)),some (false,(D.obj pen_2)),none,none,none,none,none,none,none,none,none,none]) D.bl (Zai pen_2) (rngZ (0:Int) (4:Int)) () (fun t=>t) (True) (fun _=>rfl) (fun ok w=>(Zc j_k Zf)) (fun ok w=>(XX (Zgi (by decide)))) rfl (fun s3 x4=>⟨_,ZK,V2 (ZC (ρ':=[some (false,(eScr script)),some (false,(D.obj pen_2)),some (false,(D.int x4)),none,none,none,none,none,none,none,none,none]) rfl (Z1 (f:=Zj) rfl (ZI (g:=Zj) (Y:=WT pen_2 (8:Int)) (fun w=>(Zc (j_v rfl) (Zc j_k Zf))) (fun w Q P q m=>iS_law_room (n+21) pen_2 (8:Int) w Q P q m)) (fun _=>ZK) (fun room_7=>(ZC (ρ':=[some (false,(eScr script)),some (false,(D.obj pen_2)),some (false,(D.int x4)),some (false,(Zj room_7)),none,none,none,none,none,none,none,none]) rfl (Z1 (f:=(eL Zd)) rfl (Yq (f:=(eL Zd)) ((Zv room_7)) (ZX room_7) (fun k9 w=>(Zhl (Zc (j_v rfl) Zf) (iS_law_stands (n+21) w room_7 k9)))) (fun _=>ZK) (fun stands_10=>(ZC (ρ':=[some (false,(eScr script)),some (false,(D.obj pen_2)),some (false,(D.int x4)),some (false,(Zj room_7)),some (false,((eL Zd) stands_10)),none,none,none,none,none,none,none]) rfl (Z1 (f:=Zd) rfl (Qu (k:=Zd) (f:=(eL Zd)) (g:=D.int) (fun(u14:(List (List Str)))(v15:Int)=>((ixD u14 v15).isSome=true)) (fun(u14:(List (List Str)))(v15:Int)=>((ixD u14 v15).getD default)) (Yf (f:=(eL Zd)) stands_10 (fun w=>(j_v rfl))) (ZI (g:=D.int) (Y:=Zs pen_2 (stands_10.length:Int)) (fun w=>(Zc (j_v rfl) (Zc (j_bi (Zc (j_v rfl) Zf) (Zf4 (f:=Zd))) Zf))) (fun w Q P q m=>iS_law_draw (n+21) pen_2 (stands_10.length:Int) w Q P q m)) (fun S (u14:(List (List Str))) (v15:Int) ok=>(ix_L (f:=Zd) ok))) (fun _=>ZK) (fun stand_16=>(ZC (ρ':=[some (false,(eScr script)),some (false,(D.obj pen_2)),some (false,(D.int x4)),some (false,(Zj room_7)),some (false,((eL Zd) stands_10)),some (false,(Zd stand_16)),none,none,none,none,none,none]) rfl (Z1 (f:=id) rfl (ZI (g:=id) (Y:=Z9 20 pen_2 (Zd stand_16)) (fun w=>(Zc (j_v rfl) (Zc (j_v rfl) Zf))) (fun w Q P q m=>iS_law_bent n pen_2 (Zd stand_16) w Q P q m)) (fun _=>ZK) (fun once_18=>(ZC (ρ':=[some (false,(eScr script)),some (false,(D.obj pen_2)),some (false,(D.int x4)),some (false,(Zj room_7)),some (false,((eL Zd) stands_10)),some (false,(Zd stand_16)),some (false,once_18),none,none,none,none,none]) rfl (Z1 (f:=(eL id)) rfl (W2 (o:=.Add) (k:=(eL id)) (f:=(eL id)) (g:=(eL id)) (fun(u30:(List D))(v31:(List D))=>(u30.length+v31.length≤sizeLine)) (fun(u30:(List D))(v31:(List D))=>(u30++v31)) (W2 (o:=.Add) (k:=(eL id)) (f:=(eL Zd)) (g:=(eL id)) (fun(u22:(List (List Str)))(v23:(List D))=>((u22.map Zd).length+v23.length≤sizeLine)) (fun(u22:(List (List Str)))(v23:(List D))=>((u22.map Zd)++v23)) (Yf (f:=(eL Zd)) stands_10 (fun w=>(j_v rfl))) (ZI (g:=(eL id)) (Y:=Xy pen_2 room_7) (fun w=>(Zc (j_v rfl) (Zc (j_v rfl) Zf))) (fun w Q P q m=>iS_law_runs (n+20) pen_2 room_7 w Q P q m)) (fun S (u22:(List (List Str))) (v23:(List D)) ok=>(by rw[Zk1 (f:=Zd) (xs:=u22)];exact Zax (f:=id) ok))) (Zdl (g:=(eL id)) 4 (fun(z29:D×D×D×D×Unit)=>[z29.1,z29.2.1,z29.2.2.1,z29.2.2.2.1]) (Z4 (f:=id) (Yf (f:=id) once_18 (fun w=>(j_v rfl))) (Z4 (f:=id) (ZI (g:=id) (Y:=Z9 20 pen_2 once_18) (fun w=>(Zc (j_v rfl) (Zc (j_v rfl) Zf))) (fun w Q P q m=>iS_law_bent n pen_2 once_18 w Q P q m)) (Z4 (f:=id) (ZI (g:=id) (Y:=Z9 20 pen_2 (Zd stand_16)) (fun w=>(Zc (j_v rfl) (Zc (j_v rfl) Zf))) (fun w Q P q m=>iS_law_bent n pen_2 (Zd stand_16) w Q P q m)) (Z4 (f:=id) (ZI (g:=id) (Y:=Yv pen_2) (fun w=>(Zc (j_v rfl) Zf)) (fun w Q P q m=>iS_law_odd (n+20) pen_2 w Q P q m)) X1)))) (fun _=>rfl) sz_4 (fun _=>rfl)) (fun S (u30:(List D)) (v31:(List D)) ok=>(Zax (f:=id) ok))) (fun _=>ZK) (fun things_32=>(ZC (ρ':=[some (false,(eScr script)),some (false,(D.obj pen_2)),some (false,(D.int x4)),some (false,(Zj room_7)),some (false,((eL Zd) stands_10)),some (false,(Zd stand_16)),some (false,once_18),some (false,((eL id) things_32)),none,none,none,none]) rfl (Zdn (σ:=Unit) id (fun s33=>[some (false,(eScr script)),some (false,(D.obj pen_2)),some (false,(D.int x4)),some (false,(Zj room_7)),some (false,((eL Zd) stands_10)),some (false,(Zd stand_16)),some (false,once_18),some (false,((eL id) things_32)),none,none,none,none]) D.bl (Ve room_7 stands_10) things_32 () (fun t=>Sum.inl t) (True) (fun _=>rfl) (fun ok w=>(Zc (j_v rfl) Zf)) (fun ok w=>(ZpN (f:=id))) rfl (fun s33 x34=>⟨_,ZK,V2 (ZC (ρ':=[some (false,(eScr script)),some (false,(D.obj pen_2)),some (false,(D.int x4)),some (false,(Zj room_7)),some (false,((eL Zd) stands_10)),some (false,(Zd stand_16)),some (false,once_18),some (false,((eL id) things_32)),some (false,x34),none,none,none]) rfl (Z1 (f:=D.str) rfl (Yq (f:=D.str) ((Y4 x34)) (ZY x34) (fun k37 w=>(j_bi (Zc (j_v rfl) Zf) (Zba k37)))) (fun _=>ZK) (fun kept_38=>(ZC (ρ':=[some (false,(eScr script)),some (false,(D.obj pen_2)),some (false,(D.int x4)),some (false,(Zj room_7)),some (false,((eL Zd) stands_10)),some (false,(Zd stand_16)),some (false,once_18),some (false,((eL id) things_32)),some (false,x34),some (false,(D.str kept_38)),none,none]) rfl (Z1 (f:=D.bl) rfl (Yq (f:=D.bl) ((nO x34=true)∧((isaV .tuple x34)=true→(VV .In x34 ((eL Zd) stands_10)))) ((isaV .tuple x34) && (cmpV .In x34 ((eL Zd) stands_10))) (fun k41 w=>(ZfZ (ZaK (j_v rfl) (Za9 k41.1)) (fun h40=>(WR (o:=.In) (x:=x34) (y:=((eL Zd) stands_10)) (j_v rfl) (j_v rfl) (Zkd (k41.2 h40))))))) (fun _=>ZK) (fun due_42=>(ZC (ρ':=[some (false,(eScr script)),some (false,(D.obj pen_2)),some (false,(D.int x4)),some (false,(Zj room_7)),some (false,((eL Zd) stands_10)),some (false,(Zd stand_16)),some (false,once_18),some (false,((eL id) things_32)),some (false,x34),some (false,(D.str kept_38)),some (false,(D.bl due_42)),none]) rfl (WH ((∀x44∈(rngZ (0:Int) (2:Int)),(XJ room_7 x34)∧(Y4 (D.bl (Yb room_7 x34))))∧((rngZ (0:Int) (2:Int)).length≤sizeLine)∧(Y4 (D.bl due_42))∧(0≤(2:Int)∧(2:Int)<2 ^ 62∧([(ZY (D.bl due_42))]).length * ((2:Int)).toNat≤sizeLine)∧((!decide (((rngZ (0:Int) (2:Int)).map (fun(x44:Int)=>(ZY (D.bl (Yb room_7 x34)))))=(mulL ([(ZY (D.bl due_42))]) (2:Int))))=false→(Y4 x34))) ((!decide (((rngZ (0:Int) (2:Int)).map (fun(x44:Int)=>(ZY (D.bl (Yb room_7 x34)))))=(mulL ([(ZY (D.bl due_42))]) (2:Int)))) || (!decide ((ZY x34)=kept_38))) (fun k47 w=>(j_or (WR (o:=.NotEq) (x:=((eL D.str) ((rngZ (0:Int) (2:Int)).map (fun(x44:Int)=>(ZY (D.bl (Yb room_7 x34))))))) (y:=((eL D.str) (mulL ([(ZY (D.bl due_42))]) (2:Int)))) (Zfb D.int D.str (rngZ (0:Int) (2:Int)) (fun(x44:Int)=>(ZY (D.bl (Yb room_7 x34)))) (Zc j_k Zf) (XX (Zgi (by decide))) k47.2.1 (fun x44 h45=>⟨[some (false,(eScr script)),some (false,(D.obj pen_2)),some (false,(D.int x4)),some (false,(Zj room_7)),some (false,((eL Zd) stands_10)),some (false,(Zd stand_16)),some (false,once_18),some (false,((eL id) things_32)),some (false,x34),some (false,(D.str kept_38)),some (false,(D.bl due_42)),some (false,(D.int x44))],ZK,(j_bi (Zc (Zhl (Zc (j_v rfl) (Zc (j_v rfl) Zf)) (iS_is_stand (n+21) w room_7 x34 (k47.1 x44 h45).1)) Zf) (Zba (k47.1 x44 h45).2))⟩)) (ZH (o:=.Mult) (x:=((eL D.str) ([(ZY (D.bl due_42))]))) (y:=(D.int (2:Int))) (Xu (Zc (j_bi (Zc (j_v rfl) Zf) (Zba k47.2.2.1)) Zf) sz_1) j_k (Zpy (f:=D.str) k47.2.2.2.1)) (Zj2 (S:=w.S) (f:=(eL D.str)) (x:=((rngZ (0:Int) (2:Int)).map (fun(x44:Int)=>(ZY (D.bl (Yb room_7 x34)))))) (y:=(mulL ([(ZY (D.bl due_42))]) (2:Int))) (ZoV Zg7) (by decide))) (fun h46=>(WR (o:=.NotEq) (x:=(D.str (ZY x34))) (y:=(D.str kept_38)) (j_bi (Zc (j_v rfl) Zf) (Zba (k47.2.2.2.2 h46))) (j_v rfl) (Zj2 (S:=w.S) (f:=D.str) (x:=(ZY x34)) (y:=kept_38) Zg7 (by decide)))))) (fun w=>rfl) (Y2 (f:=D.bl) (fun u51=>(Sum.inl u51)) rfl (Yf (f:=D.bl) false (fun w=>j_k)) (fun _=>rfl)) (Xk (Zbl (ZC (ρ':=[some (false,(eScr script)),some (false,(D.obj pen_2)),some (false,(D.int x4)),some (false,(Zj room_7)),some (false,((eL Zd) stands_10)),some (false,(Zd stand_16)),some (false,once_18),some (false,((eL id) things_32)),none,none,none,none]) rfl (Xk (Zdm (Sum.inr ()) rfl))))))))))))) rfl⟩) (fun s52=>(Zbl (ZC (ρ':=[some (false,(eScr script)),some (false,(D.obj pen_2)),none,none,none,none,none,none,none,none,none,none]) rfl (Xk (Zdm (Sum.inr ()) rfl)))))))))))))))))))))) rfl⟩) (fun s55=>(Y2 (f:=D.bl) (fun u58=>u58) rfl (Yf (f:=D.bl) true (fun w=>j_k)) (fun _=>rfl)))))))) (by unfold ZcE;rfl)) w Q P z m
end
end Vw
namespace Vw
open PySem Sw
namespace Bn
def standIn (sts:List (List Str))(d:D):Bool:=match d with
 | .tup ds=>match Yi ds with
   | some st=>decide (st∈sts)
   | none=>false
 | _=>false
theorem ZbO:∀(st:List Str)(es:List D),D.wholes es=true→PyData.eqvAll (D.toPs (st.map .str)) (D.toQs es)=decide (Yi es=some st)
 | [],[],_=>rfl
 | [],e :: es,_=>by
   rw[List.map_nil,D.toPs,D.toQs,PyData.eqvAll]
   symm;apply decide_eq_false
   intro h
   cases e <;> rw[Yi] at h <;> first | cases h | (cases q:Yi es <;> rw[q] at h <;> cases h) | (intro hh;cases hh)
 | s :: st,[],_=>by
   rw[List.map_cons,D.toPs,D.toQs,PyData.eqvAll]
   rfl
 | s :: st,e :: es,h=>by
   rw[D.wholes,Bool.and_eq_true] at h
   rw[List.map_cons,D.toPs,D.toQs,PyData.eqvAll,ZbO st es h.2]
   cases e with
   | str x=>
     rw[D.toP,D.toQ,Yi]
     by_cases q:Yi es=some st
     · rw[q]
       show(PyData.eqv (.str s) (.str x) && decide (some st=some st))=decide (some (x :: st)=some (s :: st))
       rw[PyData.eqv]
       by_cases a:s=x
       · subst a;simp
       · have a':¬x=s:=fun e=>a e.symm
         simp[a,a']
     · rw[decide_eq_false q,Bool.and_false]
       symm;apply decide_eq_false
       intro hh
       cases q2:Yi es with
       | none=>rw[q2] at hh;cases hh
       | some ys=>
         rw[q2] at hh
         have:x :: ys=s :: st:=Option.some.inj hh
         injection this with _ h2
         exact q (by rw[q2,h2])
   | scr _=>rw[D.whole] at h;cases h.1
   | obj _=>rw[D.whole] at h;cases h.1
   | _=>
     show(_ && _)=decide (none=some (s :: st))
     rw[D.toP,D.toQ]
     simp[PyData.eqv]
theorem VQ {d:D}(h:d.whole=true):∀sts:List (List Str),((D.toPs (sts.map Zd)).any fun z=>PyData.eqv z d.toQ)=standIn sts d
 | []=>by
   rw[List.map_nil,D.toPs,List.any_nil]
   unfold standIn
   split
   · split <;> simp
   · rfl
 | st :: r=>by
   rw[List.map_cons,D.toPs,List.any_cons,VQ h r]
   have e1:(Zd st).toP=.tuple (D.toPs (st.map .str)):=by unfold Zd;rw[D.toP]
   rw[e1]
   cases d with
   | tup es=>
     rw[D.toQ,PyData.eqv]
     rw[D.whole] at h
     rw[ZbO st es h]
     unfold standIn
     dsimp only
     cases q:Yi es with
     | none=>simp
     | some ys=>
       dsimp only
       by_cases a:ys=st
       · subst a;simp
       · simp[a]
   | scr _=>rw[D.whole] at h;cases h
   | obj _=>rw[D.whole] at h;cases h
   | _=>rw[D.toQ] <;> simp[PyData.eqv,standIn]
theorem ZaI {S:Za}{d:D}{sts:List (List Str)}(h:d.whole=true):inD S d (.lst (sts.map Zd))=some (standIn sts d):=by
 have e:=Wm S d (y:=.lst (sts.map Zd)) rfl
 have p:D.pureAll (sts.map Zd)=true:=Wy.mpr fun d hd=>by obtain⟨x,_,rfl⟩:=List.mem_map.mp hd;exact WV (Wq x)
 have hdp:=XE (n:=1) (ds:=sts.map Zd) fun d hd=>by obtain⟨x,_,rfl⟩:=List.mem_map.mp hd;exact XG x
 rw[e]
 simp only[dicD,seqD,peel]
 rw[ZS h]
 by_cases hp:d.pure=true
 · rw[if_pos hp];dsimp only
   rw[if_pos ⟨p,by omega⟩,← Uo d hp,VQ h]
 · rw[if_neg hp];dsimp only
   rw[if_pos ⟨h,p,by omega⟩,VQ h]
theorem in_S {d:D}{sts:List (List Str)}(h:d.whole=true):cmpB .In V0 d (eL Zd sts)=some (standIn sts d):=ZaI h
theorem ZoW {d:D}{sts:List (List Str)}(h:d.whole=true):cmpV .In d (eL Zd sts)=standIn sts d:=by unfold cmpV;rw[in_S h];rfl
theorem Bd.whole {B w h:Nat}{d:D}(k:Bd B w h d):d.whole=true:=UI d k.fit
theorem ZbI {α:Type}{xs:List α}{lo hi:Option Int}{x:α}(h:x∈cutD xs lo hi):x∈xs:=by unfold cutD at h;exact List.mem_of_mem_drop (List.mem_of_mem_take h)
theorem UG {α:Type}(xs:List α)(lo hi:Option Int):(cutD xs lo hi).length≤xs.length:=by unfold cutD;rw[List.length_take,List.length_drop];omega
theorem ZeR {sts:List (List Str)}{d:D}(h:isaV .tuple d=false)(hd:nO d=true):standIn sts d=false:=by
 cases d <;> first | rfl | (cases h;done) | cases hd
end Bn
end Vw
namespace Vw
open PySem Sw Bn
variable {r:Room}{p:Addr}
theorem ZiF {x:Str}(h:Wd x):asc x:=by
 unfold asc
 rw[List.all_eq_true]
 intro c hc
 have:=h.2.2 c hc
 unfold V6 at this
 exact decide_eq_true (by omega)
theorem Vb {st:List Str}{B w h:Nat}(h1:∀x∈st,asc x∧x.length≤8)(hw:st.length * 9≤w):Bd B w (h+1) (Zd st):=by
 refine Bd.tup (fun d hd=>?_) ?_
 · obtain⟨x,hx,rfl⟩:=List.mem_map.mp hd
   have k:Bd B 8 h (.str x):=Bd.str (h1 x hx).1 (h1 x hx).2
   exact⟨k.fit,k.d8⟩
 · have:∀(ys:List Str),(∀x∈ys,x.length≤8)→wts (ys.map .str)≤ys.length * 9:=by
    intro ys
    induction ys with
    | nil=>intro _;exact Nat.le_refl _
    | cons y r ih=>
      intro hy
      have h1:=ih fun x hx=>hy x (List.mem_cons_of_mem _ hx)
      have h2:=hy y (by simp)
      show wt (.str y)+1+wts (r.map .str)≤(r.length+1) * 9
      have:wt (.str y)=y.length:=rfl
      omega
   exact Nat.le_trans (this st fun x hx=>(h1 x hx).2) hw
theorem ZoH {st:List Str}{B w h:Nat}(h1:∀x∈st,asc x∧x.length≤8)(hw:st.length * 9≤w):Bd B w (h+1) (eL D.str st):=by
 have k:=Vb (B:=B) (h:=h) h1 hw
 have k1:=k.fit
 unfold Zd at k1
 rw[D.fit] at k1
 exact⟨by show D.fit B (.lst _)=true;rw[D.fit];exact k1,k.w8,k.d8⟩
theorem ZdO (hr:Zv r):∀x∈namesOf r.rows,asc x∧x.length≤8:=fun x hx=>⟨ZiF (hr.names x hx),(hr.names x hx).2.1⟩
theorem Zid (hr:Zv r){st:List Str}(h:st∈ZD r):∀x∈st,asc x∧x.length≤8:=fun x hx=>ZdO hr x ((Q1 hr h).2.2.1 x hx)
theorem ZeO (hr:Zv r){step:List Str→List Sw.Tab→PT (List Str)}(hs:step=fun s x=>PT.as (x.length≤sizeLine∧s.length+(x.map fun y:Sw.Tab=>(y.1:Str)).length≤sizeLine) (PT.ret (s++x.map fun y:Sw.Tab=>(y.1:Str)))){c:Nat}:Sp p c (PT.fold step r.rows []) fun xs=>xs=namesOf r.rows:=by
 subst hs
 have ht:=hr.tabs
 have h6:=hr.row6
 refine(Sp.fold (c:=0) (fun rest s=>s++namesOf rest=namesOf r.rows∧∀l∈rest,l.length≤6) r.rows [] ⟨by simp,h6⟩ fun s x rest h=>?_).up (by omega) fun v h=>by simpa [namesOf] using h.1
 have e:namesOf (x :: rest)=x.map (fun y:Sw.Tab=>(y.1:Str))++namesOf rest:=rfl
 rw[e,← List.append_assoc] at h
 have hl:=congrArg List.length h.1
 simp at hl
 have hx:=h.2 x (by simp)
 refine Sp.as ⟨Zk (by omega),Zk (by simp;omega)⟩ (Sp.ret ⟨h.1,fun l hl=>h.2 l (List.mem_cons_of_mem _ hl)⟩)
theorem ZlH (hr:Zv r):Sp p 10 (Xy p r) fun xs=>xs.length=8∧∀d∈xs,Bd (10 ^ 59) 1000 2 d:=by
 unfold Xy
 simp only[PT.ret_bind,PT.bind_assoc,PT.as_bind,PT.as_True]
 refine Sp.bindW (c:=0) (ZeO hr (by unfold WI;simp only[PT.ret_bind,PT.bind_assoc,PT.as_bind,PT.as_True,PT.bind_ret])) (by omega) fun ys hys=>?_
 have ht:=hr.tabs
 have hr1:=hr.row1
 have hm:=hr.many
 have hpos:1≤ys.length:=by
  subst hys
  cases e:r.rows with
  | nil=>rw[e] at hm;simp at hm
  | cons l rest=>
    have:=hr1 l (by rw[e];simp)
    simp[namesOf];omega
 have hle:ys.length≤8:=by subst hys;exact ht
 have hasc:∀x∈ys,asc x∧x.length≤8:=by subst hys;exact ZdO hr
 have hcutL:=fun lo hi=>UG ys lo hi
 refine Sp.bindW (Sp.dr (by omega) (by omega)) (by omega) fun a ha=>?_
 refine Sp.bindW (Sp.dr (by omega) (by omega)) (by omega) fun b hb=>?_
 generalize hs:cutD ys (some a) (some (a+1+b))=some1
 have hsa:∀x∈some1,asc x∧x.length≤8:=fun x hx=>hasc x (by rw[← hs] at hx;exact ZbI hx)
 have hsl:some1.length≤8:=by rw[← hs];have:=hcutL (some a) (some (a+1+b));omega
 refine Sp.bindW (Sp.dr (by omega) (by omega)) (by omega) fun c hc=>?_
 have hrl:(rngZ 0 (1+c)).length≤3:=by rw[Zjv];omega
 refine Sp.as ⟨Zgi (by omega),Zk (by omega)⟩ ?_
 refine Sp.bindW (c:=(rngZ 0 (1+c)).length * 1) (R:=fun os=>os.length=(rngZ 0 (1+c)).length∧∀(i:Nat) x y,(rngZ 0 (1+c))[i]?=some x→os[i]?=some y→y∈ys) (Sp.mapM (R:=fun _ y=>y∈ys) _ fun x _=>?_) (by omega) fun os hos=>?_
 · refine Sp.bindW (Sp.dr (by omega) (by omega)) (by omega) fun v hv=>Sp.as (WG hv.1 hv.2) (Sp.ret (WF hv.1 hv.2))
 have hosa:∀x∈os,asc x∧x.length≤8:=fun x hx=>by
  obtain⟨i,hi,e⟩:=List.getElem_of_mem hx
  exact hasc x (hos.2 i ((rngZ 0 (1+c))[i]'(by omega)) x (List.getElem?_eq_getElem (by omega)) (by rw[List.getElem?_eq_getElem hi,e]))
 have c1:=UG some1 none (some 1)
 have c2:=UG some1 (some 2) none
 refine Sp.as ⟨Zk (by omega),Zk (by omega),Zk (by simp;omega)⟩ (Sp.ret ⟨rfl,fun d hd=>?_⟩)
 have m1:∀lo hi,∀x∈cutD some1 lo hi,asc x∧x.length≤8:=fun lo hi x hx=>hsa x (ZbI hx)
 have app:∀(a b:List Str),(∀x∈a,asc x∧x.length≤8)→(∀x∈b,asc x∧x.length≤8)→∀x∈a++b,asc x∧x.length≤8:=fun a b h1 h2 x hx=>by
  rcases List.mem_append.mp hx with h | h
  · exact h1 x h
  · exact h2 x h
 simp only[List.mem_cons,List.not_mem_nil,or_false] at hd
 rcases hd with rfl | rfl | rfl | rfl | rfl | rfl | rfl | rfl
 · exact Vb hsa (by omega)
 · exact Vb (fun x hx=>hsa x (List.mem_reverse.mp hx)) (by rw[List.length_reverse];omega)
 · exact Vb (app _ _ (m1 _ _) (m1 _ _)) (by rw[List.length_append];omega)
 · exact Vb hosa (by omega)
 · exact Vb (app _ _ hsa (m1 _ _)) (by rw[List.length_append];omega)
 · exact ZoH hsa (by omega)
 · refine Vb (app _ _ hsa fun x hx=>?_) (by rw[List.length_append];simp;omega)
   rw[List.mem_singleton] at hx;subst hx;decide +kernel
 · exact⟨rfl,by decide +kernel,by decide +kernel⟩
theorem Zmi (hr:Zv r){d:D}{B w h:Nat}(k:Bd B w h d)(h1:B≤10 ^ 62)(h2:w≤40000)(h3:h≤64):Sp p 0 (Ve r (ZX r) () d) fun z=>z=.inr ():=by
 unfold Ve
 simp only[PT.ret_bind,PT.bind_assoc,PT.as_bind,PT.as_True]
 have hrep:=k.repr h1 h2 h3
 have hn:=k.nO
 have hw:=k.whole
 refine Sp.as hrep (Sp.as ⟨hn,fun _=>by unfold VV;rw[in_S hw];rfl⟩ ?_)
 rw[ZoW hw]
 have e:(isaV .tuple d && standIn (ZX r) d)=YL r d:=by
  show _=standIn (ZD r) d
  cases hb:isaV .tuple d with
  | true=>rfl
  | false=>exact(ZeR hb hn).symm
 rw[e]
 refine Sp.as ⟨fun x _=>⟨⟨hr,k.deep (by omega)⟩,Zb2 _⟩,Zk (by decide),Zb2 _,⟨by decide,by decide,Zk (by show 1 * 2≤1000000;decide)⟩,fun _=>hrep⟩ ?_
 refine Sp.ite (fun hc=>?_) fun _=>Sp.ret rfl
 exfalso
 have e2:(rngZ 0 2).map (fun _:Int=>ZY (D.bl (YL r d)))=mulL [ZY (D.bl (YL r d))] 2:=rfl
 have e3:(fun _:Int=>ZY (D.bl (Yb r d)))=fun _:Int=>ZY (D.bl (YL r d)):=rfl
 rw[e3,e2] at hc
 simp at hc
theorem Zdo (ns:List Int)(hl:ns.length≤63):ZcE ns w00 fun v _=>v=true:=by
 unfold ZcE
 simp only[PT.ret_bind,PT.bind_assoc,PT.as_bind,PT.as_True]
 refine⟨hl,rfl,fun p _=>?_⟩
 refine Sp.bindW (e:=100000) (T:=fun v=>v=true) (c:=(rngZ 0 4).length * 10000) (Sp.stay (rngZ 0 4) fun x _=>?_) (by decide) (fun z hz=>?_) _ _ ⟨rfl,show 100000≤2 ^ 40 by decide⟩ fun v w' e _=>e
 · unfold Zai
   simp only[PT.ret_bind,PT.bind_assoc,PT.as_bind,PT.as_True]
   refine Sp.bindW (ZlG (by omega) (by omega)) (by omega) fun r hr=>?_
   have hst:1≤(ZX r).length:=Zgz hr.1
   have hsl:(ZX r).length≤1000:=Nat.le_trans (Zgy hr.1) (by decide)
   refine Sp.as hr.1 ?_
   refine Sp.bindW (Sp.dr (by omega) (by omega)) (by omega) fun a ha=>?_
   refine Sp.as (WG ha.1 ha.2) ?_
   have hin:=WF (xs:=ZX r) ha.1 ha.2
   generalize (ixD (ZX r) a).getD default=st at hin ⊢
   have hbd:∀s∈ZX r,Bd (10 ^ 59) 1000 1 (Zd s):=fun s hs=>Vb (Zid hr.1 hs) (by have:=(Q1 hr.1 hs).2.1;omega)
   have e20:(10:Nat) ^ 59+10 ^ 20+10 ^ 20≤10 ^ 62:=by decide
   refine Sp.bindW (Zal (Nat.le_refl _) (by decide) 1 _ _ _ (hbd _ hin) (by omega) (by omega) 20 (by omega)) (by omega) fun d1 h1=>?_
   refine Sp.bindW (ZlH hr.1) (by omega) fun xs hxs=>?_
   refine Sp.as (Zk (by rw[List.length_map];omega)) ?_
   refine Sp.bindW (Zal (by omega) (by omega) 10 _ _ _ h1 (by omega) (by omega) 20 (by omega)) (by omega) fun d2 h2=>?_
   refine Sp.bindW (Zal (Nat.le_refl _) (by decide) 1 _ _ _ (hbd _ hin) (by omega) (by omega) 20 (by omega)) (by omega) fun d3 h3=>?_
   refine Sp.bindW ZdX (by omega) fun d4 h4=>?_
   refine Sp.as (Zk (by simp;omega)) ?_
   refine Sp.bindW (c:=(List.map Zd (ZX r)++xs++[d1,d2,d3,d4]).length * 0) (Sp.stay _ fun y hy=>?_) (by omega) fun z hz=>by subst hz;exact Sp.ret rfl
   have hy2:Bd (10 ^ 59+10 ^ 20+10 ^ 20) 20000 40 y:=by
    rcases List.mem_append.mp hy with hy | hy
    · rcases List.mem_append.mp hy with hy | hy
      · obtain⟨s,hs,rfl⟩:=List.mem_map.mp hy
        exact(hbd s hs).up (by omega) (by omega) (by omega)
      · exact(hxs.2 y hy).up (by omega) (by omega) (by omega)
    · simp only[List.mem_cons,List.not_mem_nil,or_false] at hy
      rcases hy with rfl | rfl | rfl | rfl
      · exact h1.up (by omega) (by omega) (by omega)
      · exact h2.up (by omega) (by omega) (by omega)
      · exact h3.up (by omega) (by omega) (by omega)
      · exact h4.up (by omega) (by omega) (by omega)
   exact Zmi hr.1 hy2 e20 (by omega) (by omega)
 · subst hz
   exact Sp.ret rfl
end Vw
namespace K04
open PySem Sw
def top (i:Nat):Stmt:=PySem.Challenge.pw_seatword_k04_what_is_a_stand.main.body.getD i (.Pass ⟨0,0,0,0⟩)
abbrev Yg:Stmt:=top 2
def WK:List Str:=["tables", "lost", "table"]
def WL:List Str:=["tables", "lost"]
abbrev Ym:Cs:=Sw.Ym
theorem UF:Z5 ⟨WK,L2.defScope Yg,fun _=>true⟩ Ym (L2.defBody Yg)=true:=by decide +kernel
theorem U7:scOk WK WL (L2.defScope Yg)=true:=by decide +kernel
theorem UE:YF "places_together" Yg WL:=fun _ _ _ _ _ _ us hl=>match us,hl with | [_,_],_=>rfl
abbrev Xq:Stmt:=top 3
def QK:List Str:=["room", "found", "many", "lines", "lost", "line", "at", "tables", "table"]
def QN:List Str:=["room"]
abbrev XD:Cs:=Sw.XD
theorem ZcV:Z5 ⟨QK,L2.defScope Xq,fun _=>true⟩ XD (L2.defBody Xq)=true:=by decide +kernel
theorem ZdS:scOk QK QN (L2.defScope Xq)=true:=by decide +kernel
theorem ZcS:YF "stands_of" Xq QN:=fun _ _ _ _ _ _ us hl=>match us,hl with | [_],_=>rfl
abbrev XM:Stmt:=top 4
def Zar:List Str:=["room", "thing", "one"]
def Zau:List Str:=["room", "thing"]
abbrev X4:Cs:=Sw.X4
theorem Zej:Z5 ⟨Zar,L2.defScope XM,fun _=>true⟩ X4 (L2.defBody XM)=true:=by decide +kernel
theorem ZeF:scOk Zar Zau (L2.defScope XM)=true:=by decide +kernel
theorem Zec:YF "is_stand" XM Zau:=fun _ _ _ _ _ _ us hl=>match us,hl with | [_,_],_=>rfl
abbrev Wk:Stmt:=top 6
def ZbB:List Str:=["_law_script", "_law_cell"]
def ZbC:List Str:=["_law_script"]
abbrev ZgG:Cs:=Sw.B_pen
theorem ZfR:Z5 ⟨ZbB,L2.defScope Wk,fun _=>true⟩ ZgG (L2.defBody Wk)=true:=by decide +kernel
theorem Zgr:scOk ZbB ZbC (L2.defScope Wk)=true:=by decide +kernel
theorem ZfP:YF "_law_pen" Wk ZbC:=fun _ _ _ _ _ _ us hl=>match us,hl with | [_],_=>rfl
abbrev XO:Stmt:=top 7
def Zas:List Str:=["_law_pen_here", "_law_many", "_law_at", "_law_cell", "_law_number", "_law_again", "_law_digit"]
def Zav:List Str:=["_law_pen_here", "_law_many"]
abbrev ZfE:Cs:=Sw.B_draw
theorem Zel:Z5 ⟨Zas,L2.defScope XO,fun _=>true⟩ ZfE (L2.defBody XO)=true:=by decide +kernel
theorem ZeH:scOk Zas Zav (L2.defScope XO)=true:=by decide +kernel
theorem Zee:YF "_law_draw" XO Zav:=fun _ _ _ _ _ _ us hl=>match us,hl with | [_,_],_=>rfl
abbrev Xp:Stmt:=top 8
def QJ:List Str:=["_law_pen_here", "_law_many", "_law_letters", "_law_word", "_law_at", "_law_first", "_law_by", "_law_lot", "_law_found", "_law_k", "_law_tail"]
def QM:List Str:=["_law_pen_here", "_law_many"]
abbrev XB:Cs:=Sw.XB
theorem ZcU:Z5 ⟨QJ,L2.defScope Xp,fun _=>true⟩ XB (L2.defBody Xp)=true:=by decide +kernel
theorem ZdR:scOk QJ QM (L2.defScope Xp)=true:=by decide +kernel
theorem ZcR:YF "_law_names" Xp QM:=fun _ _ _ _ _ _ us hl=>match us,hl with | [_,_],_=>rfl
abbrev XQ:Stmt:=top 9
def Zat:List Str:=["_law_pen_here", "_law_most", "_law_many", "_law_names_here", "_law_wide", "_law_rows", "_law_at", "_law_size", "_law_k"]
def Zaw:List Str:=["_law_pen_here", "_law_most"]
abbrev X5:Cs:=Sw.X5
theorem Zem:Z5 ⟨Zat,L2.defScope XQ,fun _=>true⟩ X5 (L2.defBody XQ)=true:=by decide +kernel
theorem ZeI:scOk Zat Zaw (L2.defScope XQ)=true:=by decide +kernel
theorem Zef:YF "_law_room" XQ Zaw:=fun _ _ _ _ _ _ us hl=>match us,hl with | [_,_],_=>rfl
abbrev Y6:Stmt:=top 10
def Uy:List Str:=["_law_room_here", "_law_found", "_law_many", "_law_row", "_law_at", "_law_some", "_law_whole", "_law_one"]
def UA:List Str:=["_law_room_here"]
abbrev Xh:Cs:=Sw.Xh
theorem Zck:Z5 ⟨Uy,L2.defScope Y6,fun _=>true⟩ Xh (L2.defBody Y6)=true:=by decide +kernel
theorem Zcs:scOk Uy UA (L2.defScope Y6)=true:=by decide +kernel
theorem Zcj:YF "_law_stands" Y6 UA:=fun _ _ _ _ _ _ us hl=>match us,hl with | [_],_=>rfl
abbrev CK (N:List Str)(st:Stmt)(b:Cs):Prop:=Z5 ⟨N,L2.defScope st,fun _=>true⟩ b (L2.defBody st)=true
abbrev SC (N P:List Str)(st:Stmt):Prop:=scOk N P (L2.defScope st)=true
abbrev Qe:Stmt:=top 15
def ZfI:List Str:=["_law_script", "_law_pen_here", "_law_turn", "_law_room_here", "_law_stands_here", "_law_stand", "_law_once", "_law_things", "_law_thing", "_law_kept", "_law_due", "_law_again"]
def ZfJ:List Str:=["_law_script"]
theorem Zmk:CK ZfI Qe Vw.Zbh.body:=by decide +kernel
theorem ZnS:SC ZfI ZfJ Qe:=by decide +kernel
theorem Zmc:YF "law" Qe ZfJ:=fun _ _ _ _ _ _ us hl=>match us,hl with | [_],_=>rfl
abbrev XN:Stmt:=top 13
def VG:List Str:=["_law_pen_here", "_law_thing", "_law_way", "_law_at", "_law_signs", "_law_sign"]
def VI:List Str:=["_law_pen_here", "_law_thing"]
theorem Zek:CK VG XN Vw.Xi.body:=by decide +kernel
theorem ZeG:SC VG VI XN:=by decide +kernel
theorem Zed:YF "_law_bent" XN VI:=fun _ _ _ _ _ _ us hl=>match us,hl with | [_,_],_=>rfl
abbrev Wj:Stmt:=top 12
def Ux:List Str:=["_law_pen_here", "_law_some"]
def Uz:List Str:=["_law_pen_here"]
theorem ZfQ:CK Ux Wj Vw.Vi.body:=by decide +kernel
theorem Zgq:SC Ux Uz Wj:=by decide +kernel
theorem ZfO:YF "_law_odd" Wj Uz:=fun _ _ _ _ _ _ us hl=>match us,hl with | [_],_=>rfl
abbrev XR:Stmt:=top 14
def VH:List Str:=["_law_pen_here", "_law_room_here", "_law_names_here", "_law_row", "_law_at", "_law_some", "_law_other", "_law_turn", "_law_name", "_law_places_here"]
def VJ:List Str:=["_law_pen_here", "_law_room_here"]
theorem Zen:CK VH XR Vw.W1.body:=by decide +kernel
theorem ZeJ:SC VH VJ XR:=by decide +kernel
theorem Zeg:YF "_law_runs" XR VJ:=fun _ _ _ _ _ _ us hl=>match us,hl with | [_,_],_=>rfl
def dl:List (Str×Str×Vw.PDef):=[(("" : Str),("law" : Str),Vw.Zbh),(("" : Str),("_law_bent" : Str),Vw.Xi),(("" : Str),("_law_odd" : Str),Vw.Vi),(("" : Str),("_law_runs" : Str),Vw.W1)]
def bl:List (Str×Vw.Bs):=[(("_law_pen" : Str),.pn),(("_law_room" : Str),.P 60 (fun as=>∃m:Int,as=[.int m]∧1≤m∧m≤8) Zcv),(("_law_stands" : Str),.R Qp),(("_law_draw" : Str),.dr),(("is_stand" : Str),.R VF)]
def gl:List (Str×D):=[]
def fl:List (Str×Str):=[]
def ml:List (Str×Str):=[]
def tab:Vw.Tab:=⟨⟨Vw.glOf gl,Vw.inL fl,Vw.inL ml,false⟩,Vw.dfOf dl,Vw.bsOf bl⟩
theorem ZfY:Vw.UB tab:=Vw.ZhZ ⟨by kernel_rfl,by kernel_rfl⟩
theorem Zev:Vw.VO tab:=Vw.Zgo ⟨by kernel_rfl,by kernel_rfl⟩
theorem Zcn:Vw.W0 tab:=Vw.ZdP ⟨by kernel_rfl,by kernel_rfl⟩
theorem Wv:Vw.YG tab:=Vw.Zgn ⟨by kernel_rfl,by kernel_rfl⟩
theorem ZaG:Vw.XZ tab:=Vw.ZhY (by kernel_rfl) Wv
theorem Zeu:Vw.VN tab:=Vw.Zgm (by kernel_rfl) Wv ZaG
theorem Zew:Vw.VP tab:=Vw.Zgp (by kernel_rfl) Wv
theorem Zet:Vw.VM tab:=Vw.Zgl ⟨by kernel_rfl,by kernel_rfl⟩
theorem ZmU:Vw.ZjP tab:=Vw.ZpG (by kernel_rfl) ZfY Zev Zcn Wv Zeu Zew ZaG Zet
theorem Znk (ns:List Int)(hl:ns.length≤63):Vw.cT tab 22 "" "law" [.scr (ns.map .int)] Vw.w00 fun d _=>d=.bl true:=by
 have:=ZmU 0 ns Vw.w00 (fun d _=>d=.bl true) _ (Vw.Zdo ns hl) fun v w e=>by rw[e]
 rw[Vw.VU] at this
 exact this
theorem linked {P:Program}{w:World}{K:PySem.W.Frag}{mg:Str→Option Value}{base:Heap}(blt:∀x∈Z6,mg x=none)
  (l1:Lnk K mg "_law_pen" Wk)
  (l2:Lnk K mg "_law_draw" XO)
  (l3:Lnk K mg "_law_names" Xp)
  (l4:Lnk K mg "_law_room" XQ)
  (l5:Lnk K mg "_law_stands" Y6)
  (l6:Lnk K mg "places_together" Yg)
  (l7:Lnk K mg "stands_of" Xq)
  (l8:Lnk K mg "is_stand" XM)
  (l9:Lnk K mg "law" Qe)
  (l10:Lnk K mg "_law_bent" XN)
  (l11:Lnk K mg "_law_odd" Wj)
  (l12:Lnk K mg "_law_runs" XR)
  (g1:∃v u,Vf (.int 3)=some v∧mg "MOST_PUSHED" = some u∧L2.RelV v u):LkD P w K mg base (clOf mg) (Vw.lev 3 22) "law" (V5 63):=by
 have up:∀ {j k:Nat} {x:Str} {sp:ZA},LkD P w K mg base (clOf mg) j x sp→j≤k→LkD P w K mg base (clOf mg) k x sp:=fun h hj=>h.up hj
 have a1:LkD P w K mg base (clOf mg) 1 "_law_pen" Za1:=YY l1 Zgr ZfP ZfR blt Zgw Znx
 have a2:LkD P w K mg base (clOf mg) 1 "_law_draw" Xn:=YY l2 ZeH Zee Zel blt ZeN Zln
 have a3:LkD P w K mg base (clOf mg) 2 "_law_names" VD:=YY l3 ZdR ZcR ZcU blt Zf9 (Zjh a2)
 have a4:LkD P w K mg base (clOf mg) 3 "_law_room" Zia:=YY l4 ZeI Zef Zem blt ZdW (Zlo (up a2 (by decide)) a3)
 have a5:LkD P w K mg base (clOf mg) 1 "_law_stands" W8:=YY l5 Zcs Zcj Zck blt Zak Zcp
 have a6:LkD P w K mg base (clOf mg) 1 "places_together" QC:=YY l6 U7 UE UF blt ZjF Zny
 have a7:LkD P w K mg base (clOf mg) 2 "stands_of" W8:=YY l7 ZdS ZcS ZcV blt Zak (ZhJ a6 g1)
 have a8:LkD P w K mg base (clOf mg) 3 "is_stand" Zb7:=YY l8 ZeF Zec Zej blt Zak (XJ a7)
 have hd:∀e∈dl,Vw.ZfF K mg (Vw.knOf dl bl) e.1 e.2.1 e.2.2:=by
  intro e he
  simp only[dl,List.mem_cons,List.not_mem_nil,or_false] at he
  rcases he with rfl | rfl | rfl | rfl
  · exact⟨by decide +kernel,Qe,ZfI,ZfJ,rfl,rfl,ZnS,Zmk,.inl ⟨rfl,l9,Zmc⟩⟩
  · exact⟨by decide +kernel,XN,VG,VI,rfl,rfl,ZeG,Zek,.inl ⟨rfl,l10,Zed⟩⟩
  · exact⟨by decide +kernel,Wj,Ux,Uz,rfl,rfl,Zgq,ZfQ,.inl ⟨rfl,l11,ZfO⟩⟩
  · exact⟨by decide +kernel,XR,VH,VJ,rfl,rfl,ZeJ,Zen,.inl ⟨rfl,l12,Zeg⟩⟩
 have hb:∀e∈bl,LkD P w K mg base (clOf mg) 3 e.1 (Vw.spOf e.2):=by
  intro e he
  simp only[bl,List.mem_cons,List.not_mem_nil,or_false] at he
  rcases he with rfl | rfl | rfl | rfl | rfl
  · exact up a1 (by decide)
  · exact a4
  · exact up a5 (by decide)
  · exact up a2 (by decide)
  · exact a8
 have hg:∀e∈gl,∃v u,Vf e.2=some v∧mg e.1=some u∧L2.RelV v u:=by
  intro e he;cases he
 have hf:∀e∈fl,LkF K (clOf mg) e.1 e.2:=by
  intro e he;cases he
 exact Vw.Znj (T:=tab) (kn:=Vw.knOf dl bl) (k0:=3) (n:=22) (Vw.ZjK blt hd hb (by decide +kernel) hg hf (by decide +kernel)) (by decide +kernel) Znk
end K04
open PySem PySem.W PyProof.Rows
local macro_rules | `(tactic| o_head (kHook $K $a $e))=>`(tactic| o_head (Sw.smHook $K $a $e))
set_option maxHeartbeats 0 in
theorem PySem.Challenge.cw_seatword_k04_what_is_a_stand_holds : PySem.Challenge.rw_seatword_k04_what_is_a_stand.Holds := by
 w_on;o_law;k_head;(case hw=>w_witness2)
 k_fill
 refine Sw.walk (n:=63) (k:=49) rfl (by decide) rfl ⟨rfl,by decide,by decide⟩ (fun _ _ Y=>Y) (fun w=>?hs) ?F
 case hs=>kernel_rfl
 case F=>
  intro w mg fa h KX G hmg base _ _
  refine' K04.linked (Sw.Zmh KX G ?b1 ?b2 ?b3 ?b4 ?b5 ?b6 ?b7 ?b8 ?b9 ?b10 ?b11 ?b12 ?b13 ?b14 ?b15 ?b16 ?b17 ?b18 ?b19 ?b20) (Sw.Y3 KX G ?a1 ?l1 ?c1 ?k1) (Sw.Y3 KX G ?a2 ?l2 ?c2 ?k2) (Sw.Y3 KX G ?a3 ?l3 ?c3 ?k3) (Sw.Y3 KX G ?a4 ?l4 ?c4 ?k4) (Sw.Y3 KX G ?a5 ?l5 ?c5 ?k5) (Sw.Y3 KX G ?a6 ?l6 ?c6 ?k6) (Sw.Y3 KX G ?a7 ?l7 ?c7 ?k7) (Sw.Y3 KX G ?a8 ?l8 ?c8 ?k8) (Sw.Y3 KX G ?a9 ?l9 ?c9 ?k9) (Sw.Y3 KX G ?a10 ?l10 ?c10 ?k10) (Sw.Y3 KX G ?a11 ?l11 ?c11 ?k11) (Sw.Y3 KX G ?a12 ?l12 ?c12 ?k12) (Sw.glI KX G ?g1)
  (case b1=>k_is)
  (case b2=>k_is)
  (case b3=>k_is)
  (case b4=>k_is)
  (case b5=>k_is)
  (case b6=>k_is)
  (case b7=>k_is)
  (case b8=>k_is)
  (case b9=>k_is)
  (case b10=>k_is)
  (case b11=>k_is)
  (case b12=>k_is)
  (case b13=>k_is)
  (case b14=>k_is)
  (case b15=>k_is)
  (case b16=>k_is)
  (case b17=>k_is)
  (case b18=>k_is)
  (case b19=>k_is)
  (case b20=>k_is)
  (case a1=>k_is);(case l1=>k_is);(case c1=>k_is);(case k1=>k_is)
  (case a2=>k_is);(case l2=>k_is);(case c2=>k_is);(case k2=>k_is)
  (case a3=>k_is);(case l3=>k_is);(case c3=>k_is);(case k3=>k_is)
  (case a4=>k_is);(case l4=>k_is);(case c4=>k_is);(case k4=>k_is)
  (case a5=>k_is);(case l5=>k_is);(case c5=>k_is);(case k5=>k_is)
  (case a6=>k_is);(case l6=>k_is);(case c6=>k_is);(case k6=>k_is)
  (case a7=>k_is);(case l7=>k_is);(case c7=>k_is);(case k7=>k_is)
  (case a8=>k_is);(case l8=>k_is);(case c8=>k_is);(case k8=>k_is)
  (case a9=>k_is);(case l9=>k_is);(case c9=>k_is);(case k9=>k_is)
  (case a10=>k_is);(case l10=>k_is);(case c10=>k_is);(case k10=>k_is)
  (case a11=>k_is);(case l11=>k_is);(case c11=>k_is);(case k11=>k_is)
  (case a12=>k_is);(case l12=>k_is);(case c12=>k_is);(case k12=>k_is)
  (case g1=>k_is)
